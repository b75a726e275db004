import PyProof.Rows.All
import PySem.Challenge.RW_guesswalk_k07_tables_told
import Wide.All
import OpenK.AllK
import Wide.FinOn
import KE.KStateDown
import KE.KEqNest
import PyProof.ReprRoads
import Lean
import HandS.ForMost
import HandS.Exc
import HandS.ExcInit
import HandS.ExcOwn
import HandS.TryOnly
import HandS.TryMany
import HandS.TupAny
import HandS.TupMul
import HandS.TupLe
import HandS.Style
import HandS.Flow
import HandS.IsInst
import HandS.Conv
import HandS.Deep
import HandS.Defaults
import HandS.Wide
import HandS.StrMore
import HandS.Zip
import HandS.Head0
import HandS.Head1
import HandS.Head2
import HandS.HeadEnd
import HandS.HeadHook1
import HandS.HeadHook2
import PyProof.NeKinds
import HandS.DeepEq
import HandS.RaiseMore
import HandS.Replace
import HandS.ExcField
import HandS.Rev
import HandS.CallLocal
import HandS.Ends
import PyProof.NoPylong
import KE.IntTextLaws
import PyProof.ReprBulk
set_option Elab.async false
set_option linter.all false
set_option maxRecDepth 100000
set_option maxHeartbeats 4000000
/-! Core 1: values, the store, worlds, what a value stands for. -/
namespace GW
open PySem L2

inductive Val where
  | non | bl (b : Bool) | int (i : Int) | str (x : Str) | tup (xs : List Val) | lst (xs : List Val) | scr (xs : List Val) | ref (l : Nat) | fn (f : Nat) | exc (c : Nat) (fs : List Val)
inductive Ob where
  | lst (xs : List Val) | dct (ks : List Key) (vs : List Val)
abbrev Store := List Ob
abbrev Enm := List (Option Val)
inductive Res (α : Type) where
  | ok (a : α) (S : Store) | exc (c : Nat) (fs : List Val) (S : Store) | stk
def Res.bind {α β : Type} (r : Res α) (g : α → Store → Res β) : Res β := match r with
  | .ok a S => g a S
  | .exc c fs S => .exc c fs S
  | .stk => .stk
@[simp] theorem Res.bind_ok {α β : Type} (a : α) (S : Store) (g : α → Store → Res β) : (Res.ok a S).bind g = g a S := rfl
@[simp] theorem Res.bind_exc {α β : Type} (c : Nat) (fs : List Val) (S : Store) (g : α → Store → Res β) : (Res.exc c fs S : Res α).bind g = .exc c fs S := rfl
@[simp] theorem Res.bind_stk {α β : Type} (g : α → Store → Res β) : (Res.stk : Res α).bind g = .stk := rfl

/-- what the text has laid: where the functions and the classes stand, the classes' fields -/
structure Fx where
  K : PySem.W.Frag
  fa : Nat → Addr
  ca : Nat → Addr
  cf : Nat → List Str

mutual
inductive Rep (F : Fx) (J : Hp) (r : List Addr) : Val → V → Prop
  | non : Rep F J r .non .non
  | bl (b : Bool) : Rep F J r (.bl b) (.bl b)
  | int (i : Int) : Rep F J r (.int i) (.int i)
  | str (x : Str) : Rep F J r (.str x) (.str x)
  | tup {xs : List Val} {vs : List V} {a : Addr} : SqT F.K J a vs → Reps F J r xs vs → Rep F J r (.tup xs) (.ref a)
  | lst {xs : List Val} {vs : List V} {a : Addr} : J a = some (.lst vs) → Reps F J r xs vs → Rep F J r (.lst xs) (.ref a)
  | scr {xs : List Val} {vs : List V} {a : Addr} : SqL F.K J a vs → Reps F J r xs vs → Rep F J r (.scr xs) (.ref a)
  | ref {l : Nat} {a : Addr} : r[l]? = some a → Rep F J r (.ref l) (.ref a)
  | fn (f : Nat) : Rep F J r (.fn f) (.ref (F.fa f))
  | exc {c : Nat} {fs : List Val} {ws : List V} {d : Addr} : J d = some (.xd ((F.cf c).zip ws)) → Reps F J r fs ws → Rep F J r (.exc c fs) (.ref d)
inductive Reps (F : Fx) (J : Hp) (r : List Addr) : List Val → List V → Prop
  | nil : Reps F J r [] []
  | cons {x : Val} {v : V} {xs : List Val} {vs : List V} : Rep F J r x v → Reps F J r xs vs → Reps F J r (x :: xs) (v :: vs)
end

/-- the later world keeps what the older one says -/
structure Le (H J : Hp) (r : List Addr) (H' J' : Hp) (r' : List Addr) : Prop where
  keep : ∀ a o, H a = some o → a ∉ r → H' a = some o ∧ a ∉ r'
  pre : r <+: r'
  jj : ∀ a o, J a = some o → J' a = some o
  new : ∀ a o, J' a = some o → J a = some o ∨ H a = none
  trk : ∀ a, H a ≠ none → H' a ≠ none

theorem Le.refl {H J : Hp} {r : List Addr} : Le H J r H J r := ⟨fun _ _ h n => ⟨h, n⟩, List.prefix_refl _, fun _ _ h => h, fun _ _ h => .inl h, fun _ h => h⟩
theorem Le.trans {H J H1 J1 H2 J2 : Hp} {r r1 r2 : List Addr} (x : Le H J r H1 J1 r1) (y : Le H1 J1 r1 H2 J2 r2) : Le H J r H2 J2 r2 where
  keep := fun a o h n => let ⟨p, q⟩ := x.keep a o h n; y.keep a o p q
  pre := x.pre.trans y.pre
  jj := fun a o h => y.jj a o (x.jj a o h)
  new := fun a o h => by
    rcases y.new a o h with h1 | h1
    · exact x.new a o h1
    · exact .inr (Classical.byContradiction fun n => x.trk a n h1)
  trk := fun a h => y.trk a (x.trk a h)

theorem rd_up {J J' : Hp} {a : Addr} {u : HO} (h : ∀ a o, J a = some o → J' a = some o) (r : Rd J a u) : Rd J' a u := by
  rcases r with r | ⟨o, r⟩
  · exact .inl (h _ _ r)
  · exact .inr ⟨o, h _ _ r⟩
theorem sqT_up {K : PySem.W.Frag} {J J' : Hp} {a : Addr} {vs : List V} (h : ∀ a o, J a = some o → J' a = some o) (r : SqT K J a vs) : SqT K J' a vs := by
  rcases r with r | r
  · exact .inl (rd_up h r)
  · exact .inr r
theorem sqL_up {K : PySem.W.Frag} {J J' : Hp} {a : Addr} {vs : List V} (h : ∀ a o, J a = some o → J' a = some o) (r : SqL K J a vs) : SqL K J' a vs := by
  rcases r with r | r
  · exact .inl (rd_up h r)
  · exact .inr r
mutual
theorem Rep.up {F : Fx} {J J' : Hp} {r r' : List Addr} (h : ∀ a o, J a = some o → J' a = some o) (p : r <+: r') : ∀ {x : Val} {v : V}, Rep F J r x v → Rep F J' r' x v
  | _, _, .non => .non
  | _, _, .bl b => .bl b
  | _, _, .int i => .int i
  | _, _, .str x => .str x
  | _, _, .tup q s => .tup (sqT_up h q) (Reps.up h p s)
  | _, _, .lst q s => .lst (h _ _ q) (Reps.up h p s)
  | _, _, .scr q s => .scr (sqL_up h q) (Reps.up h p s)
  | _, _, .ref q => .ref (by
      obtain ⟨t, rfl⟩ := p
      rw [List.getElem?_append_left (List.getElem?_eq_some_iff.mp q).1]; exact q)
  | _, _, .fn f => .fn f
  | _, _, .exc q s => .exc (h _ _ q) (Reps.up h p s)
theorem Reps.up {F : Fx} {J J' : Hp} {r r' : List Addr} (h : ∀ a o, J a = some o → J' a = some o) (p : r <+: r') : ∀ {xs : List Val} {vs : List V}, Reps F J r xs vs → Reps F J' r' xs vs
  | _, _, .nil => .nil
  | _, _, .cons a b => .cons (Rep.up h p a) (Reps.up h p b)
end
theorem Rep.le {F : Fx} {H J H' J' : Hp} {r r' : List Addr} {x : Val} {v : V} (l : Le H J r H' J' r') (p : Rep F J r x v) : Rep F J' r' x v := p.up l.jj l.pre
theorem Reps.le {F : Fx} {H J H' J' : Hp} {r r' : List Addr} {x : List Val} {v : List V} (l : Le H J r H' J' r') (p : Reps F J r x v) : Reps F J' r' x v := p.up l.jj l.pre
theorem Reps.length {F : Fx} {J : Hp} {r : List Addr} : ∀ {xs : List Val} {vs : List V}, Reps F J r xs vs → vs.length = xs.length
  | _, _, .nil => rfl
  | _, _, .cons _ b => congrArg (· + 1) (Reps.length b)
theorem Reps.get {F : Fx} {J : Hp} {r : List Addr} : ∀ {xs : List Val} {vs : List V} {i : Nat} {x : Val}, Reps F J r xs vs → xs[i]? = some x → ∃ v, vs[i]? = some v ∧ Rep F J r x v
  | _, _, _, _, .nil, e => by simp at e
  | _, _, 0, _, .cons a _, e => by simp at e; subst e; exact ⟨_, rfl, a⟩
  | _, _, i + 1, _, .cons _ b, e => by
    obtain ⟨v, h, k⟩ := Reps.get (i := i) b (by simpa using e)
    exact ⟨v, by simpa using h, k⟩
theorem Reps.getV {F : Fx} {J : Hp} {r : List Addr} : ∀ {xs : List Val} {vs : List V} {i : Nat} {v : V}, Reps F J r xs vs → vs[i]? = some v → ∃ x, xs[i]? = some x ∧ Rep F J r x v
  | _, _, _, _, .nil, e => by simp at e
  | _, _, 0, _, .cons a _, e => by simp at e; subst e; exact ⟨_, rfl, a⟩
  | _, _, i + 1, _, .cons _ b, e => by
    obtain ⟨v, h, k⟩ := Reps.getV (i := i) b (by simpa using e)
    exact ⟨v, by simpa using h, k⟩
theorem Reps.app {F : Fx} {J : Hp} {r : List Addr} : ∀ {xs : List Val} {vs : List V} {ys : List Val} {us : List V}, Reps F J r xs vs → Reps F J r ys us → Reps F J r (xs ++ ys) (vs ++ us)
  | _, _, _, _, .nil, q => q
  | _, _, _, _, .cons a b, q => .cons a (Reps.app b q)
theorem Reps.take {F : Fx} {J : Hp} {r : List Addr} : ∀ {xs : List Val} {vs : List V} (n : Nat), Reps F J r xs vs → Reps F J r (xs.take n) (vs.take n)
  | _, _, 0, _ => by simp; exact .nil
  | _, _, n + 1, .nil => by simp; exact .nil
  | _, _, n + 1, .cons a b => by simp; exact .cons a (Reps.take n b)
theorem Reps.drop {F : Fx} {J : Hp} {r : List Addr} : ∀ {xs : List Val} {vs : List V} (n : Nat), Reps F J r xs vs → Reps F J r (xs.drop n) (vs.drop n)
  | _, _, 0, q => by simpa using q
  | _, _, n + 1, .nil => by simp; exact .nil
  | _, _, n + 1, .cons a b => by simpa using Reps.drop n b
theorem Reps.set {F : Fx} {J : Hp} {r : List Addr} {x : Val} {v : V} (k : Rep F J r x v) : ∀ {xs : List Val} {vs : List V} (n : Nat), Reps F J r xs vs → Reps F J r (xs.set n x) (vs.set n v)
  | _, _, n, .nil => by simp; exact .nil
  | _, _, 0, .cons a b => by simp; exact .cons k b
  | _, _, n + 1, .cons a b => by simp; exact .cons a (Reps.set k n b)
theorem Reps.eraseIdx {F : Fx} {J : Hp} {r : List Addr} : ∀ {xs : List Val} {vs : List V} (n : Nat), Reps F J r xs vs → Reps F J r (xs.eraseIdx n) (vs.eraseIdx n)
  | _, _, n, .nil => by simp; exact .nil
  | _, _, 0, .cons a b => by simpa using b
  | _, _, n + 1, .cons a b => by simp; exact .cons a (Reps.eraseIdx n b)

def ObR (F : Fx) (J : Hp) (r : List Addr) (H : Hp) (a : Addr) : Ob → Prop
  | .lst xs => ∃ vs, H a = some (.lst vs) ∧ Reps F J r xs vs
  | .dct ks xs => ∃ vs, H a = some (.dK (ks.zip vs)) ∧ Reps F J r xs vs ∧ ks.length = xs.length
/-- the world: what is frozen (J), the store's addresses (r), the store -/
structure Wo (F : Fx) (H J : Hp) (r : List Addr) (S : Store) : Prop where
  sub : ∀ a o, J a = some o → H a = some o
  dis : ∀ a ∈ r, J a = none
  nd : r.Nodup
  len : r.length = S.length
  obs : ∀ (l : Nat) o, S[l]? = some o → ∃ a, r[l]? = some a ∧ ObR F J r H a o
def En (F : Fx) (J : Hp) (r : List Addr) (en : Enm) (st : St) : Prop := ∀ (i : Nat) x, en[i]? = some (some x) → ∃ v, st[i]? = some (some v) ∧ Rep F J r x v

section
variable {F : Fx} {H J H' J' : Hp} {r r' : List Addr} {S S' : Store} {en : Enm} {st : St}
theorem En.le (l : Le H J r H' J' r') (p : En F J r en st) : En F J' r' en st := fun i x e => let ⟨v, h, k⟩ := p i x e; ⟨v, h, k.le l⟩
theorem En.put {x : Val} {v : V} {i : Nat} (p : En F J r en st) (k : Rep F J r x v) (h : i < st.length) : En F J r (en.set i (some x)) (st.set i (some v)) := fun j y e => by
  by_cases hj : i = j
  · subst hj
    by_cases hl : i < en.length
    · rw [List.getElem?_set_self hl] at e
      cases e
      exact ⟨v, List.getElem?_set_self h, k⟩
    · rw [List.set_eq_of_length_le (by omega), List.getElem?_eq_none (by omega)] at e
      cases e
  · rw [List.getElem?_set_ne hj] at e ⊢
    exact p j y e
theorem ObR.up {a : Addr} {o : Ob} (h : ∀ a o, J a = some o → J' a = some o) (p : r <+: r') (e : H a = H' a) (q : ObR F J r H a o) : ObR F J' r' H' a o := by
  cases o with
  | lst xs =>
    obtain ⟨vs, e1, k⟩ := q
    exact ⟨vs, e ▸ e1, k.up h p⟩
  | dct ks xs =>
    obtain ⟨vs, e1, k, l⟩ := q
    exact ⟨vs, e ▸ e1, k.up h p, l⟩
theorem ObR.there {a : Addr} {o : Ob} (q : ObR F J r H a o) : ∃ u, H a = some u := by
  cases o with
  | lst xs => obtain ⟨vs, e1, _⟩ := q; exact ⟨_, e1⟩
  | dct ks xs => obtain ⟨vs, e1, _⟩ := q; exact ⟨_, e1⟩
theorem ObR.mut {a : Addr} {o : Ob} (q : ObR F J r H a o) : Mut (H a) := by
  cases o with
  | lst xs => obtain ⟨vs, e1, _⟩ := q; rw [e1]; trivial
  | dct ks xs => obtain ⟨vs, e1, _⟩ := q; rw [e1]; trivial
theorem Wo.there (w : Wo F H J r S) {a : Addr} (h : a ∈ r) : ∃ u, H a = some u := by
  obtain ⟨l, hl, e⟩ := List.getElem_of_mem h
  have h2 : l < S.length := by rw [← w.len]; exact hl
  obtain ⟨b, e1, q⟩ := w.obs l S[l] (List.getElem?_eq_getElem h2)
  rw [List.getElem?_eq_getElem hl] at e1
  have e2 : b = a := by rw [← e]; exact (Option.some.inj e1).symm
  subst e2
  exact q.there
theorem Wo.fresh (w : Wo F H J r S) {a : Addr} (h : H a = none) : a ∉ r := fun hm => by
  obtain ⟨u, e⟩ := w.there hm
  rw [h] at e; cases e
theorem Wo.freshJ (w : Wo F H J r S) {a : Addr} (h : H a = none) : J a = none := by
  cases e : J a with
  | none => rfl
  | some o => rw [w.sub a o e] at h; cases h
/-- a frozen object is laid -/
theorem Wo.frz (w : Wo F H J r S) {p : Addr} {o : HO} (h : H p = none) : Wo F (upd H p o) (upd J p o) r S ∧ Le H J r (upd H p o) (upd J p o) r := by
  have hr := w.fresh h
  have jj : ∀ a u, J a = some u → upd J p o a = some u := fun a u e => by
    rw [upd_ne (ne_of_none e (w.freshJ h))]; exact e
  refine ⟨⟨fun a u e => ?_, fun a hm => ?_, w.nd, w.len, fun l q e => ?_⟩, ⟨fun a u e n => ⟨by rw [upd_ne (ne_of_none e h)]; exact e, n⟩, List.prefix_refl _, jj, fun a u e => ?_, fun a e z => ?_⟩⟩
  · by_cases ha : a = p
    · subst ha; rw [upd_same] at e ⊢; exact e
    · rw [upd_ne ha] at e ⊢; exact w.sub a u e
  · have ha : a ≠ p := fun z => hr (z ▸ hm)
    rw [upd_ne ha]; exact w.dis a hm
  · obtain ⟨a, e1, k⟩ := w.obs l q e
    have ha : a ≠ p := fun z => hr (z ▸ List.mem_of_getElem? e1)
    exact ⟨a, e1, k.up jj (List.prefix_refl _) (upd_ne ha).symm⟩
  · by_cases ha : a = p
    · subst ha; exact .inr h
    · rw [upd_ne ha] at e; exact .inl e
  · by_cases ha : a = p
    · subst ha; rw [upd_same] at z; cases z
    · rw [upd_ne ha] at z; exact e z
/-- an object of the store is laid -/
theorem Wo.lay (w : Wo F H J r S) {p : Addr} {u : HO} {o : Ob} (h : H p = none) (k : ObR F J (r ++ [p]) (upd H p u) p o) : Wo F (upd H p u) J (r ++ [p]) (S ++ [o]) ∧ Le H J r (upd H p u) J (r ++ [p]) := by
  have hr := w.fresh h
  have hj := w.freshJ h
  refine ⟨⟨fun a z e => ?_, fun a hm => ?_, ?_, by simp [w.len], fun l q e => ?_⟩, ⟨fun a z e n => ?_, List.prefix_append _ _, fun _ _ e => e, fun _ _ e => .inl e, fun a e z => ?_⟩⟩
  · rw [upd_ne (ne_of_none e hj)]; exact w.sub a z e
  · rcases List.mem_append.mp hm with hm | hm
    · exact w.dis a hm
    · rw [List.mem_singleton.mp hm]; exact hj
  · exact List.nodup_append.mpr ⟨w.nd, by simp, fun a ha b hb z => by rw [List.mem_singleton.mp hb] at z; exact hr (z ▸ ha)⟩
  · by_cases hl : l < S.length
    · rw [List.getElem?_append_left hl] at e
      obtain ⟨a, e1, k1⟩ := w.obs l q e
      have ha : a ≠ p := fun z => hr (z ▸ List.mem_of_getElem? e1)
      exact ⟨a, by rw [List.getElem?_append_left (by rw [w.len]; exact hl)]; exact e1, k1.up (fun _ _ z => z) (List.prefix_append _ _) (upd_ne ha).symm⟩
    · have e2 : l = S.length := by
        have := (List.getElem?_eq_some_iff.mp e).1
        simp at this
        omega
      subst e2
      simp at e
      subst e
      exact ⟨p, by rw [← w.len]; simp, k⟩
  · refine ⟨by rw [upd_ne (ne_of_none e h)]; exact e, fun hm => ?_⟩
    rcases List.mem_append.mp hm with hm | hm
    · exact n hm
    · rw [List.mem_singleton.mp hm, h] at e; cases e
  · by_cases ha : a = p
    · subst ha; rw [upd_same] at z; cases z
    · rw [upd_ne ha] at z; exact e z
/-- a place that was made since the elder world and has been kept aside comes into the store -/
theorem Wo.own {H0 J0 : Hp} {r0 : List Addr} (w : Wo F H J r S) (l : Le H0 J0 r0 H J r) {p : Addr} {u : HO} {o : Ob} (h0 : H0 p = none) (hr : p ∉ r) (hj : J p = none) (k : ObR F J (r ++ [p]) (upd H p u) p o) :
    Wo F (upd H p u) J (r ++ [p]) (S ++ [o]) ∧ Le H0 J0 r0 (upd H p u) J (r ++ [p]) := by
  refine ⟨⟨fun a z e => ?_, fun a hm => ?_, ?_, by simp [w.len], fun m q e => ?_⟩, ⟨fun a z e n => ?_, l.pre.trans (List.prefix_append _ _), l.jj, l.new, fun a e z => ?_⟩⟩
  · rw [upd_ne (ne_of_none e hj)]; exact w.sub a z e
  · rcases List.mem_append.mp hm with hm | hm
    · exact w.dis a hm
    · rw [List.mem_singleton.mp hm]; exact hj
  · exact List.nodup_append.mpr ⟨w.nd, by simp, fun a ha b hb z => by rw [List.mem_singleton.mp hb] at z; exact hr (z ▸ ha)⟩
  · by_cases hl : m < S.length
    · rw [List.getElem?_append_left hl] at e
      obtain ⟨a, e1, k1⟩ := w.obs m q e
      have ha : a ≠ p := fun z => hr (z ▸ List.mem_of_getElem? e1)
      exact ⟨a, by rw [List.getElem?_append_left (by rw [w.len]; exact hl)]; exact e1, k1.up (fun _ _ z => z) (List.prefix_append _ _) (upd_ne ha).symm⟩
    · have e2 : m = S.length := by
        have := (List.getElem?_eq_some_iff.mp e).1
        simp at this
        omega
      subst e2
      simp at e
      subst e
      exact ⟨p, by rw [← w.len]; simp, k⟩
  · have ha : a ≠ p := ne_of_none e h0
    obtain ⟨q1, q2⟩ := l.keep a z e n
    refine ⟨by rw [upd_ne ha]; exact q1, fun hm => ?_⟩
    rcases List.mem_append.mp hm with hm | hm
    · exact q2 hm
    · exact ha (List.mem_singleton.mp hm)
  · by_cases ha : a = p
    · subst ha; exact e h0
    · rw [upd_ne ha] at z; exact l.trk a e z
/-- .. is frozen -/
theorem Wo.ownF {H0 J0 : Hp} {r0 : List Addr} (w : Wo F H J r S) (l : Le H0 J0 r0 H J r) {p : Addr} {u : HO} (h0 : H0 p = none) (hr : p ∉ r) (hj : J p = none) :
    Wo F (upd H p u) (upd J p u) r S ∧ Le H0 J0 r0 (upd H p u) (upd J p u) r := by
  have jj : ∀ a o, J a = some o → upd J p u a = some o := fun a o e => by rw [upd_ne (ne_of_none e hj)]; exact e
  refine ⟨⟨fun a z e => ?_, fun a hm => ?_, w.nd, w.len, fun m q e => ?_⟩, ⟨fun a z e n => ?_, l.pre, fun a o e => jj a o (l.jj a o e), fun a o e => ?_, fun a e z => ?_⟩⟩
  · by_cases ha : a = p
    · subst ha; rw [upd_same] at e ⊢; exact e
    · rw [upd_ne ha] at e ⊢; exact w.sub a z e
  · have ha : a ≠ p := fun z => hr (z ▸ hm)
    rw [upd_ne ha]; exact w.dis a hm
  · obtain ⟨a, e1, k⟩ := w.obs m q e
    have ha : a ≠ p := fun z => hr (z ▸ List.mem_of_getElem? e1)
    exact ⟨a, e1, k.up jj (List.prefix_refl _) (upd_ne ha).symm⟩
  · obtain ⟨q1, q2⟩ := l.keep a z e n
    exact ⟨by rw [upd_ne (ne_of_none e h0)]; exact q1, q2⟩
  · by_cases ha : a = p
    · subst ha; exact .inr h0
    · rw [upd_ne ha] at e; exact l.new a o e
  · by_cases ha : a = p
    · subst ha; exact e h0
    · rw [upd_ne ha] at z; exact l.trk a e z
/-- an object kept aside: neither frozen nor in the store -/
theorem Wo.aside (w : Wo F H J r S) {p : Addr} {u : HO} (h : H p = none) : Wo F (upd H p u) J r S ∧ Le H J r (upd H p u) J r ∧ p ∉ r ∧ J p = none := by
  have hr := w.fresh h
  have hj := w.freshJ h
  refine ⟨⟨fun a z e => ?_, w.dis, w.nd, w.len, fun m q e => ?_⟩, ⟨fun a z e n => ⟨by rw [upd_ne (ne_of_none e h)]; exact e, n⟩, List.prefix_refl _, fun _ _ e => e, fun _ _ e => .inl e, fun a e z => ?_⟩, hr, hj⟩
  · rw [upd_ne (ne_of_none e hj)]; exact w.sub a z e
  · obtain ⟨a, e1, k⟩ := w.obs m q e
    have ha : a ≠ p := fun z => hr (z ▸ List.mem_of_getElem? e1)
    exact ⟨a, e1, k.up (fun _ _ z => z) (List.prefix_refl _) (upd_ne ha).symm⟩
  · by_cases ha : a = p
    · subst ha; exact e h
    · rw [upd_ne ha] at z; exact e z
theorem nodup_at {r : List Addr} (h : r.Nodup) {i j : Nat} {a : Addr} (e1 : r[i]? = some a) (e2 : r[j]? = some a) : i = j := by
  obtain ⟨h1, q1⟩ := List.getElem?_eq_some_iff.mp e1
  obtain ⟨h2, q2⟩ := List.getElem?_eq_some_iff.mp e2
  exact (List.getElem_inj h).mp (q1.trans q2.symm)
/-- an object of the store is written -/
theorem Wo.wr (w : Wo F H J r S) {l : Nat} {p : Addr} {u : HO} {o : Ob} (e0 : r[l]? = some p) (k : ObR F J r (upd H p u) p o) : Wo F (upd H p u) J r (S.set l o) ∧ Le H J r (upd H p u) J r := by
  have hm := List.mem_of_getElem? e0
  have hj := w.dis p hm
  refine ⟨⟨fun a z e => ?_, w.dis, w.nd, by simp [w.len], fun m q e => ?_⟩, ⟨fun a z e n => ?_, List.prefix_refl _, fun _ _ e => e, fun _ _ e => .inl e, fun a e z => ?_⟩⟩
  · have ha : a ≠ p := fun y => by subst y; rw [hj] at e; cases e
    rw [upd_ne ha]; exact w.sub a z e
  · by_cases hl : l = m
    · subst hl
      have hlt : l < S.length := by rw [← w.len]; exact (List.getElem?_eq_some_iff.mp e0).1
      rw [List.getElem?_set_self hlt] at e
      cases e
      exact ⟨p, e0, k⟩
    · rw [List.getElem?_set_ne hl] at e
      obtain ⟨a, e1, k1⟩ := w.obs m q e
      have ha : a ≠ p := fun z => hl (nodup_at w.nd e0 (z ▸ e1))
      exact ⟨a, e1, k1.up (fun _ _ z => z) (List.prefix_refl _) (upd_ne ha).symm⟩
  · have ha : a ≠ p := fun y => n (y ▸ hm)
    exact ⟨by rw [upd_ne ha]; exact e, n⟩
  · by_cases ha : a = p
    · subst ha; rw [upd_same] at z; cases z
    · rw [upd_ne ha] at z; exact e z
end

/-! ### readings -/
/-- the wish for exceptions; what stands behind the slots -/
structure WS where
  w : WX
  sd : List V
  iv : St → Prop
def WS.st (W : WS) (st : St) : St := st ++ W.sd.map some
/-- the slots, told; what else is known of them -/
structure EnW (F : Fx) (W : WS) (J : Hp) (r : List Addr) (en : Enm) (st : St) : Prop where
  en : En F J r en (W.st st)
  iv : W.iv st
theorem EnW.le {F : Fx} {W : WS} {H J H' J' : Hp} {r r' : List Addr} {en : Enm} {st : St} (p : EnW F W J r en st) (l : Le H J r H' J' r') : EnW F W J' r' en st := ⟨p.en.le l, p.iv⟩
/-- what is asked of an answer -/
def PoE (F : Fx) (W : WS) (st : St) (H J : Hp) (r : List Addr) (x : Res Val) (Q : VK) : Prop := match x with
  | .ok v S' => ∀ H' J' r' w, Wo F H' J' r' S' → Le H J r H' J' r' → Rep F J' r' v w → Q w H'
  | .exc c fs S' => ∀ H' J' r' d ws, Wo F H' J' r' S' → Le H J r H' J' r' → J' d = some (.xd ((F.cf c).zip ws)) → Reps F J' r' fs ws → W.w (.ref (F.ca c)) (some d) st H'
  | .stk => False
def TT (F : Fx) (W : WS) (f : Enm → Store → Res Val) : TE := fun st H Q => ∃ en S J r, Wo F H J r S ∧ EnW F W J r en st ∧ PoE F W st H J r (f en S) Q
section
variable {F : Fx} {W : WS} {st : St} {H J H1 J1 : Hp} {r r1 : List Addr} {Q Q' : VK}
theorem PoE.le {x : Res Val} (l : Le H J r H1 J1 r1) (p : PoE F W st H J r x Q) : PoE F W st H1 J1 r1 x Q := by
  cases x with
  | ok v S => exact fun H' J' r' w a b c => p H' J' r' w a (l.trans b) c
  | exc c fs S => exact fun H' J' r' d ws a b e f => p H' J' r' d ws a (l.trans b) e f
  | stk => exact p
/-- behind a part of an expression -/
def Nx (F : Fx) (W : WS) (st : St) (H J : Hp) (r : List Addr) (g : Val → Store → Res Val) (Q : VK) : VK := fun v H1 =>
  ∃ J1 r1 S1 x, Wo F H1 J1 r1 S1 ∧ Le H J r H1 J1 r1 ∧ Rep F J1 r1 x v ∧ PoE F W st H1 J1 r1 (g x S1) Q
theorem PoE.bind {x : Res Val} {g : Val → Store → Res Val} (p : PoE F W st H J r (x.bind g) Q) : PoE F W st H J r x (Nx F W st H J r g Q) := by
  cases x with
  | ok v S => exact fun H' J' r' w a b c => ⟨J', r', S, v, a, b, c, PoE.le b p⟩
  | exc c fs S => exact p
  | stk => exact p
theorem TT.bind {f : Enm → Store → Res Val} {g : Enm → Val → Store → Res Val} (p : TT F W (fun en S => (f en S).bind (g en)) st H Q) :
    TT F W f st H fun v H1 => ∃ en J1 r1 S1 x, EnW F W J1 r1 en st ∧ Wo F H1 J1 r1 S1 ∧ Rep F J1 r1 x v ∧ PoE F W st H1 J1 r1 (g en x S1) Q := by
  obtain ⟨en, S, J, r, w, e, p⟩ := p
  refine ⟨en, S, J, r, w, e, ?_⟩
  have q := PoE.bind p
  cases h : f en S with
  | ok v S1 =>
    rw [h] at q
    exact fun H' J' r' w a b c => by
      obtain ⟨J1, r1, S2, x, k1, k2, k3, k4⟩ := q H' J' r' w a b c
      exact ⟨en, J1, r1, S2, x, e.le k2, k1, k3, k4⟩
  | exc c fs S1 => rw [h] at q; exact q
  | stk => rw [h] at q; exact q
end
end GW
/-! Core 2: operators on values. -/
namespace L2
open PySem PySem.Spec PyProof.Rows
theorem tuple_mulW1 (l : Addr) (items : Array Value) (n : Nat) (dd : Option Addr) (sl : Array (Option Value)) (x : Int) (u : Tok) (c0 : (decide (x < -(2 ^ 63)) || decide (x ≥ 2 ^ 63)) = false) (c1 : (items.isEmpty || x == 1) = true) :
    Meets (Builtin.«tuple.__mul__» ⟨[.ref l, .int x u], []⟩) (fun _ R s => s.heap.get? l = some { cls := .type "tuple", dict := dd, data := .seq items n, slots := sl } ∧
      R (.ok (.ret (Value.ref l))) s) :=
  .of_wp fun prog w A R s h => by
    obtain ⟨hp, g, d, tk, os⟩ := s
    obtain ⟨hl, h⟩ := h
    have f1 := AutoSeq1.idx_int
    wp_walk using wpAny_loadPart' hl
    repeat (first
      | (refine wpAny_ite_false (decide_eq_false (by rw [c0]; exact Bool.false_ne_true)) ?_; wp_walk using wpAny_loadPart' hl)
      | (refine wpAny_ite_true (decide_eq_true (by rw [c1])) ?_; wp_walk using wpAny_loadPart' hl))
    exact ⟨_, rfl, h⟩
theorem tuple_mulW0 (l : Addr) (items : Array Value) (n : Nat) (dd : Option Addr) (sl : Array (Option Value)) (x : Int) (u : Tok) (c0 : (decide (x < -(2 ^ 63)) || decide (x ≥ 2 ^ 63)) = false) (c1 : (items.isEmpty || x == 1) = false) (c2 : (decide (x ≤ 0) || items.isEmpty) = true) :
    Meets (Builtin.«tuple.__mul__» ⟨[.ref l, .int x u], []⟩) (fun _ R s => s.heap.get? l = some { cls := .type "tuple", dict := dd, data := .seq items n, slots := sl } ∧
      R (.ok (.ret (Value.ref s.heap.objs.size))) { s with heap := s.heap.push { cls := Value.type "tuple", data := Data.seq #[] }, toks := s.toks }) :=
  .of_wp fun prog w A R s h => by
    obtain ⟨hp, g, d, tk, os⟩ := s
    obtain ⟨hl, h⟩ := h
    have f1 := AutoSeq1.idx_int
    wp_walk using wpAny_loadPart' hl
    repeat (first
      | (refine wpAny_ite_false (decide_eq_false (by rw [c0]; exact Bool.false_ne_true)) ?_; wp_walk using wpAny_loadPart' hl)
      | (refine wpAny_ite_false (decide_eq_false (by rw [c1]; exact Bool.false_ne_true)) ?_; wp_walk using wpAny_loadPart' hl)
      | (refine wpAny_ite_true (decide_eq_true (by rw [c2])) ?_; wp_walk using wpAny_loadPart' hl))
    exact ⟨_, rfl, h⟩
section
variable {X : Cx}
/-- tuple * k for k at most 1 -/
def rRepS (K : PySem.W.Frag) : R2 := fun x y H Q => ∃ l k xs, x = .ref l ∧ y = .int k ∧ SqT K H l xs ∧ xs ≠ [] ∧ -1000 ≤ k ∧ k ≤ 1 ∧ (k = 1 → Q (.ref l) H) ∧ (k ≠ 1 → ∀ p, H p = none → Q (.ref p) (upd H p (.tup [])))
theorem op_repS : OpR X (binaryOp .Mult) (rRepS X.K) := by
  intro pins s σ H x y v u Q I rx ry h
  obtain ⟨l, k, xs, rfl, rfl, hT, hne, h1, h2, q1, q0⟩ := h
  cases rx
  obtain ⟨t, rfl⟩ := ry
  obtain ⟨its, r, ⟨⟨cls, dd, data, sl⟩, ho, hc, n, hd⟩, hs⟩ := I.tuple hT
  simp only at hc hd
  subst hc hd
  have hle : its.length = xs.length := r.length.symm
  have hn : its ≠ [] := fun e => hne (by
    rw [e] at hle
    exact List.eq_nil_of_length_eq_zero hle.symm)
  have hi : its.toArray.isEmpty = false := by
    cases its with
    | nil => exact absurd rfl hn
    | cons a b => rfl
  have c0 : (decide (k < -(2 ^ 63)) || decide (k ≥ 2 ^ 63)) = false := by
    rw [decide_eq_false (by omega), decide_eq_false (by omega)] <;> rfl
  by_cases hk : k = 1
  · have c1 : (its.toArray.isEmpty || k == 1) = true := by rw [hk]; simp
    refine wpAny_binaryOp_repeat_ref (T := "tuple") (U := "int") (by decide) ⟨_, ho, rfl⟩ (fun s' => typeIs_int s' k t) noFill_tuple_mul F.fills_int_mul F.slot_int_rmul repeat_tuple F.slot_int_index.lookup
      (call_meets F.slot_int_rmul (typeIs_int s k t) F.entry_int_rmul (F.args_int_rmul_2 _ _) (int_rmul_tuple k t l its.toArray n dd sl)
        ⟨ho, rfl, ⟨_, ho, rfl⟩, call_meets F.slot_tuple_mul ⟨_, ho, rfl⟩ F.entry_tuple_mul (F.args_tuple_mul_2 _ _) (tuple_mulW1 l its.toArray n dd sl k t c0 c1) ⟨ho, ?_⟩⟩)
    exact ⟨.ref l, H, I, rfl, q1 hk⟩
  · have c1 : (its.toArray.isEmpty || k == 1) = false := by
      rw [hi, Bool.false_or]
      exact beq_eq_false_iff_ne.mpr hk
    have c2 : (decide (k ≤ 0) || its.toArray.isEmpty) = true := by
      rw [decide_eq_true (by omega), Bool.true_or]
    refine wpAny_binaryOp_repeat_ref (T := "tuple") (U := "int") (by decide) ⟨_, ho, rfl⟩ (fun s' => typeIs_int s' k t) noFill_tuple_mul F.fills_int_mul F.slot_int_rmul repeat_tuple F.slot_int_index.lookup
      (call_meets F.slot_int_rmul (typeIs_int s k t) F.entry_int_rmul (F.args_int_rmul_2 _ _) (int_rmul_tuple k t l its.toArray n dd sl)
        ⟨ho, rfl, ⟨_, ho, rfl⟩, call_meets F.slot_tuple_mul ⟨_, ho, rfl⟩ F.entry_tuple_mul (F.args_tuple_mul_2 _ _) (tuple_mulW0 l its.toArray n dd sl k t c0 c1 c2) ⟨ho, ?_⟩⟩)
    refine ⟨.ref s.heap.objs.size, _, I.laid (t' := s.toks) (o := .tup []) (fun b ob q => Heap.get?_push_of_some _ q) (Nat.le_refl _) ?_, rfl, q0 hk _ (I.hok.fresh (Nat.le_refl _))⟩
    exact ⟨by simp, [], .nil, IsTup.new _ _⟩
end
end L2
namespace GW
open PySem L2

def seqL (S : Store) : Val → Option (List Val)
  | .lst xs => some xs
  | .ref l => (match S[l]? with
    | some (.lst xs) => some xs
    | _ => none)
  | _ => none
def lim (n : Nat) (x : Val) (S : Store) : Res Val := if n ≤ sizeLine then .ok x S else .stk
theorem lim_ok {n : Nat} {x : Val} {S : Store} (h : n ≤ sizeLine) : lim n x S = .ok x S := if_pos h
def mulOk (i j : Int) : Bool := !(decide (Builtin.Int.intBits i > shortFactorBits) && decide (Builtin.Int.intBits j > shortFactorBits) && Builtin.Int.intTooBig (Builtin.Int.intBits i + Builtin.Int.intBits j))
def divOk (i j : Int) : Bool := decide (j ≠ 0) && !Builtin.divisionGoesByPylong i j
def powOk (i j : Int) : Bool := decide (0 ≤ j) && decide ((Builtin.Int.intBits i : Int) * j ≤ 2 ^ 27)

def addV (x y : Val) (S : Store) : Res Val := match x, y with
  | .int i, .int j => .ok (.int (i + j)) S
  | .str a, .str b => lim (a.length + b.length) (.str (a ++ b)) S
  | .tup a, .tup b => lim (a.length + b.length) (.tup (a ++ b)) S
  | .lst a, .lst b => lim (a.length + b.length) (.lst (a ++ b)) S
  | .lst a, .ref l => (match S[l]? with
    | some (.lst b) => lim (a.length + b.length) (.lst (a ++ b)) S
    | _ => .stk)
  | .ref l, .lst b => (match S[l]? with
    | some (.lst a) => lim (a.length + b.length) (.lst (a ++ b)) S
    | _ => .stk)
  | .ref l, .ref m => (match S[l]?, S[m]? with
    | some (.lst a), some (.lst b) => lim (a.length + b.length) (.lst (a ++ b)) S
    | _, _ => .stk)
  | _, _ => .stk
def subV (x y : Val) (S : Store) : Res Val := match x, y with
  | .int i, .int j => .ok (.int (i - j)) S
  | _, _ => .stk
def repL (n : Int) (a : List Val) (S : Store) : Res Val := if -(2 ^ 63) ≤ n ∧ n < 2 ^ 63 ∧ a.length * n.toNat ≤ sizeLine then .ok (.lst (List.replicate n.toNat a).flatten) S else .stk
def mulV (x y : Val) (S : Store) : Res Val := match x, y with
  | .int i, .int j => if mulOk i j = true then .ok (.int (i * j)) S else .stk
  | .lst a, .int n => repL n a S
  | .ref l, .int n => (match S[l]? with
    | some (.lst a) => repL n a S
    | _ => .stk)
  | .tup a, .int n => if a ≠ [] ∧ -1000 ≤ n ∧ n ≤ 1000 ∧ a.length ≤ 1000 then .ok (.tup (List.replicate n.toNat a).flatten) S else .stk
  | .str a, .int n => if 0 ≤ n ∧ n ≤ 100 ∧ a.length ≤ 10000 then .ok (.str (Txt.mul a n)) S else .stk
  | _, _ => .stk
def divV (x y : Val) (S : Store) : Res Val := match x, y with
  | .int i, .int j => if divOk i j = true then .ok (.int (i.fdiv j)) S else .stk
  | _, _ => .stk
def modV (x y : Val) (S : Store) : Res Val := match x, y with
  | .int i, .int j => if j ≠ 0 then .ok (.int (i.fmod j)) S else .stk
  | _, _ => .stk
def powV (x y : Val) (S : Store) : Res Val := match x, y with
  | .int i, .int j => if powOk i j = true then .ok (.int (i ^ j.toNat)) S else .stk
  | _, _ => .stk
/-- a new list that is written later -/
def newR (xs : List Val) (S : Store) : Res Val := if xs.length ≤ sizeLine then .ok (.ref S.length) (S ++ [.lst xs]) else .stk
def addRV (x y : Val) (S : Store) : Res Val := match seqL S x, seqL S y with
  | some a, some b => newR (a ++ b) S
  | _, _ => addV x y S
def mulRV (x y : Val) (S : Store) : Res Val := match seqL S x, y with
  | some a, .int n => if -(2 ^ 63) ≤ n ∧ n < 2 ^ 63 ∧ a.length * n.toNat ≤ sizeLine then newR (List.replicate n.toNat a).flatten S else .stk
  | _, _ => mulV x y S
inductive Bop where
  | add | sub | mul | div | mod | pow | addR | mulR
def Bop.op : Bop → Operator
  | .add => .Add | .sub => .Sub | .mul => .Mult | .div => .FloorDiv | .mod => .Mod | .pow => .Pow | .addR => .Add | .mulR => .Mult
def bopV : Bop → Val → Val → Store → Res Val
  | .add => addV | .sub => subV | .mul => mulV | .div => divV | .mod => modV | .pow => powV | .addR => addRV | .mulR => mulRV

section
variable {F : Fx} {X : Cx} {W : WS} {pins : List (Addr × Obj)} {s : Shared} {st : St} {H J : Hp} {r : List Addr} {S : Store} {Q : VK}
theorem seqL_at (w : Wo F H J r S) {x : Val} {v : V} {xs : List Val} (p : Rep F J r x v) (h : seqL S x = some xs) : ∃ a vs, v = .ref a ∧ H a = some (.lst vs) ∧ Reps F J r xs vs := by
  cases p with
  | lst q t =>
    cases h
    exact ⟨_, _, rfl, w.sub _ _ q, t⟩
  | ref q =>
    simp only [seqL] at h
    split at h
    · rename_i ys e
      cases h
      obtain ⟨b, e1, vs, e2, t⟩ := w.obs _ _ e
      rw [q] at e1
      cases e1
      exact ⟨_, _, rfl, e2, t⟩
    · cases h
  | _ => cases h
/-- an answer that stays in this world -/
theorem PoE.stay {x : Val} {v : V} (p : PoE F W st H J r (.ok x S) Q) (w : Wo F H J r S) (q : Rep F J r x v) : Q v H := p H J r v w Le.refl q
theorem PoE.limE {n : Nat} {x : Val} (p : PoE F W st H J r (lim n x S) Q) : n ≤ sizeLine ∧ PoE F W st H J r (.ok x S) Q := by
  unfold lim at p
  split at p
  · rename_i h; exact ⟨h, p⟩
  · exact p.elim
/-- a new frozen list, tuple -/
theorem PoE.newL {xs : List Val} {vs : List V} (p : PoE F W st H J r (.ok (.lst xs) S) Q) (w : Wo F H J r S) (q : Reps F J r xs vs) : ∀ a, H a = none → Q (.ref a) (upd H a (.lst vs)) := fun a ha =>
  let ⟨w', l⟩ := w.frz (o := .lst vs) ha
  p _ _ _ _ w' l (.lst upd_same (q.le l))
theorem PoE.newT {xs : List Val} {vs : List V} (p : PoE F W st H J r (.ok (.tup xs) S) Q) (w : Wo F H J r S) (q : Reps F J r xs vs) : ∀ a, H a = none → Q (.ref a) (upd H a (.tup vs)) := fun a ha =>
  let ⟨w', l⟩ := w.frz (o := .tup vs) ha
  p _ _ _ _ w' l (.tup (SqT.of upd_same) (q.le l))
theorem sqT_H (w : Wo F H J r S) {K : PySem.W.Frag} {a : Addr} {vs : List V} (q : SqT K J a vs) : SqT K H a vs := sqT_up w.sub q
theorem sqL_H (w : Wo F H J r S) {K : PySem.W.Frag} {a : Addr} {vs : List V} (q : SqL K J a vs) : SqL K H a vs := sqL_up w.sub q

theorem PoE.newR {xs : List Val} {vs : List V} (p : PoE F W st H J r (newR xs S) Q) (w : Wo F H J r S) (q : Reps F J r xs vs) : vs.length ≤ sizeLine ∧ ∀ a, H a = none → Q (.ref a) (upd H a (.lst vs)) := by
  unfold GW.newR at p
  split at p
  · rename_i hz
    refine ⟨by rw [q.length]; exact hz, fun a ha => ?_⟩
    obtain ⟨w2, l2⟩ := w.lay (u := .lst vs) (o := .lst xs) ha ⟨vs, upd_same, q.up (fun _ _ z => z) (List.prefix_append _ _)⟩
    exact p _ _ _ _ w2 l2 (.ref (by rw [← w.len]; simp))
  · exact p.elim
theorem add_ok (hK : F.K = X.K) (I : Inv X pins st H s) (w : Wo F H J r S) {x y : Val} {vx vy : V} {ux uy : Value} (px : Rep F J r x vx) (py : Rep F J r y vy) (rx : RelV vx ux) (ry : RelV vy uy)
    (p : PoE F W st H J r (addV x y S) Q) : wpAny (model X.prog X.w) X.A (binaryOp .Add ux uy) (EP X pins st Q) X.xe s := by
  have lists : ∀ (a b : List Val), seqL S x = some a → seqL S y = some b → PoE F W st H J r (lim (a.length + b.length) (.lst (a ++ b)) S) Q → wpAny (model X.prog X.w) X.A (binaryOp .Add ux uy) (EP X pins st Q) X.xe s := fun a b ha hb p => by
    obtain ⟨l1, vs1, rfl, h1, t1⟩ := seqL_at w px ha
    obtain ⟨l2, vs2, rfl, h2, t2⟩ := seqL_at w py hb
    obtain ⟨hz, p⟩ := p.limE
    exact op_cat pins s st H _ _ _ _ Q I rx ry ⟨l1, l2, vs1, vs2, rfl, rfl, h1, h2, by rw [t1.length, t2.length]; exact hz, p.newL w (t1.app t2)⟩
  unfold addV at p
  split at p
  · cases px; cases py
    exact op_add pins s st H _ _ _ _ Q I rx ry ⟨_, _, rfl, rfl, p.stay w (.int _)⟩
  · cases px; cases py
    obtain ⟨hz, p⟩ := p.limE
    exact op_add_str pins s st H _ _ _ _ Q I rx ry ⟨_, _, rfl, rfl, hz, p.stay w (.str _)⟩
  · cases px with
    | tup q1 t1 => cases py with
      | tup q2 t2 =>
        obtain ⟨hz, p⟩ := p.limE
        rw [hK] at q1 q2
        refine op_catA pins s st H _ _ _ _ Q I rx ry ⟨_, _, _, _, rfl, rfl, sqT_H w q1, sqT_H w q2, by rw [t1.length, t2.length]; exact hz, fun e => ?_, fun _ e => ?_, fun _ _ => p.newT w (t1.app t2)⟩
        · have e0 := t1.length
          rw [e] at e0
          have e1 := List.eq_nil_of_length_eq_zero e0.symm
          rw [e1, List.nil_append] at p
          exact p.stay w (.tup (hK ▸ q2) t2)
        · have e0 := t2.length
          rw [e] at e0
          have e1 := List.eq_nil_of_length_eq_zero e0.symm
          rw [e1, List.append_nil] at p
          exact p.stay w (.tup (hK ▸ q1) t1)
  · exact lists _ _ rfl rfl p
  · split at p
    · rename_i h
      exact lists _ _ rfl (by simp [seqL, h]) p
    · exact p.elim
  · split at p
    · rename_i h
      exact lists _ _ (by simp [seqL, h]) rfl p
    · exact p.elim
  · split at p
    · rename_i h1 h2
      exact lists _ _ (by simp [seqL, h1]) (by simp [seqL, h2]) p
    · exact p.elim
  · exact p.elim
theorem sub_ok (I : Inv X pins st H s) (w : Wo F H J r S) {x y : Val} {vx vy : V} {ux uy : Value} (px : Rep F J r x vx) (py : Rep F J r y vy) (rx : RelV vx ux) (ry : RelV vy uy)
    (p : PoE F W st H J r (subV x y S) Q) : wpAny (model X.prog X.w) X.A (binaryOp .Sub ux uy) (EP X pins st Q) X.xe s := by
  unfold subV at p
  split at p
  · cases px; cases py
    exact op_sub pins s st H _ _ _ _ Q I rx ry ⟨_, _, rfl, rfl, p.stay w (.int _)⟩
  · exact p.elim
theorem mul_ok (hK : F.K = X.K) (I : Inv X pins st H s) (w : Wo F H J r S) {x y : Val} {vx vy : V} {ux uy : Value} (px : Rep F J r x vx) (py : Rep F J r y vy) (rx : RelV vx ux) (ry : RelV vy uy)
    (p : PoE F W st H J r (mulV x y S) Q) : wpAny (model X.prog X.w) X.A (binaryOp .Mult ux uy) (EP X pins st Q) X.xe s := by
  have reps : ∀ (m : Nat) {xs : List Val} {vs : List V}, Reps F J r xs vs → Reps F J r (List.replicate m xs).flatten (List.replicate m vs).flatten := by
    intro m
    induction m with
    | zero => intro xs vs _; exact .nil
    | succ m ih => intro xs vs t; rw [List.replicate_succ, List.replicate_succ, List.flatten_cons, List.flatten_cons]; exact t.app (ih t)
  unfold mulV at p
  split at p
  · cases px; cases py
    split at p
    · rename_i h
      obtain ⟨t, rfl⟩ := rx
      obtain ⟨t', rfl⟩ := ry
      refine PyProof.Rows.mul_int ⟨.int _, H, I.tok _, ⟨_, rfl⟩, p.stay w (.int _)⟩ ?_
      unfold IntMulOk
      unfold mulOk at h
      intro z
      rw [z] at h
      cases h
    · exact p.elim
  · cases px with
    | lst q t =>
      cases py
      unfold repL at p
      split at p
      · rename_i h
        obtain ⟨h1, h2, h3⟩ := h
        exact op_rep pins s st H _ _ _ _ Q I rx ry ⟨_, _, _, rfl, rfl, w.sub _ _ q, h1, h2, by rw [t.length]; exact h3, p.newL w (reps _ t)⟩
      · exact p.elim
  · split at p
    · rename_i xsa e0
      cases py
      obtain ⟨l1, vs1, rfl, q1, t1⟩ := seqL_at (x := .ref _) (xs := xsa) w px (by simp only [seqL]; rw [e0])
      unfold repL at p
      split at p
      · rename_i h
        obtain ⟨h1, h2, h3⟩ := h
        exact op_rep pins s st H _ _ _ _ Q I rx ry ⟨_, _, _, rfl, rfl, q1, h1, h2, by rw [t1.length]; exact h3, p.newL w (reps _ t1)⟩
      · exact p.elim
    · exact p.elim
  · cases px with
    | tup q t =>
      cases py
      split at p
      · rename_i h
        obtain ⟨h0, h1, h2, h3⟩ := h
        have hne : ∀ vs : List V, vs.length = _ → vs ≠ [] := fun vs e0 e => h0 (by rw [e] at e0; exact List.eq_nil_of_length_eq_zero e0.symm)
        by_cases h4 : 2 ≤ ‹Int›
        · rw [hK] at q
          exact op_repT pins s st H _ _ _ _ Q I rx ry ⟨_, _, _, rfl, rfl, sqT_H w q, hne _ t.length, h4, h2, by rw [t.length]; exact h3, p.newT w (reps _ t)⟩
        · have q' := q
          rw [hK] at q'
          refine op_repS pins s st H _ _ _ _ Q I rx ry ⟨_, _, _, rfl, rfl, sqT_H w q', hne _ t.length, h1, by omega, fun e => ?_, fun e => ?_⟩
          · subst e
            simp only [Int.toNat_one, List.replicate, List.flatten_cons, List.flatten_nil, List.append_nil] at p
            exact p.stay w (.tup q t)
          · have e0 : (‹Int›).toNat = 0 := by omega
            rw [e0] at p
            exact p.newT w .nil
      · exact p.elim
  · cases px; cases py
    split at p
    · rename_i h
      obtain ⟨h1, h2, h3⟩ := h
      rename_i a n
      obtain ⟨t, rfl⟩ := rx
      obtain ⟨t', rfl⟩ := ry
      refine PySem.SB.mul ⟨?_, ?_, ?_⟩ ?_
      · simp; omega
      · intro z _ hc
        have : (9223372036854775807 : Int) / 100 ≤ (2 ^ 63 - 1) / n := by
          refine Int.le_ediv_of_mul_le (by omega) ?_
          omega
        omega
      · intro _ _
        unfold Builtin.Str.tooLong
        refine decide_eq_false ?_
        have h4 : n.toNat ≤ 100 := by omega
        have h5 : a.length * n.toNat ≤ 10000 * 100 := Nat.mul_le_mul h3 h4
        have h6 : (1000000 : Nat) ≤ sizeLine := by decide
        omega
      · intro t' k
        exact ⟨.str _, H, I.tok _, ⟨_, rfl⟩, p.stay w (.str _)⟩
    · exact p.elim
  · exact p.elim
theorem addR_ok (hK : F.K = X.K) (I : Inv X pins st H s) (w : Wo F H J r S) {x y : Val} {vx vy : V} {ux uy : Value} (px : Rep F J r x vx) (py : Rep F J r y vy) (rx : RelV vx ux) (ry : RelV vy uy)
    (p : PoE F W st H J r (addRV x y S) Q) : wpAny (model X.prog X.w) X.A (binaryOp .Add ux uy) (EP X pins st Q) X.xe s := by
  unfold addRV at p
  split at p
  · rename_i ha hb
    obtain ⟨l1, vs1, rfl, h1, t1⟩ := seqL_at w px ha
    obtain ⟨l2, vs2, rfl, h2, t2⟩ := seqL_at w py hb
    obtain ⟨hz, p⟩ := p.newR w (t1.app t2)
    exact op_cat pins s st H _ _ _ _ Q I rx ry ⟨l1, l2, vs1, vs2, rfl, rfl, h1, h2, by simpa using hz, p⟩
  · exact add_ok hK I w px py rx ry p
theorem mulR_ok (hK : F.K = X.K) (I : Inv X pins st H s) (w : Wo F H J r S) {x y : Val} {vx vy : V} {ux uy : Value} (px : Rep F J r x vx) (py : Rep F J r y vy) (rx : RelV vx ux) (ry : RelV vy uy)
    (p : PoE F W st H J r (mulRV x y S) Q) : wpAny (model X.prog X.w) X.A (binaryOp .Mult ux uy) (EP X pins st Q) X.xe s := by
  have reps : ∀ (m : Nat) {xs : List Val} {vs : List V}, Reps F J r xs vs → Reps F J r (List.replicate m xs).flatten (List.replicate m vs).flatten := by
    intro m
    induction m with
    | zero => intro xs vs _; exact .nil
    | succ m ih => intro xs vs t; rw [List.replicate_succ, List.replicate_succ, List.flatten_cons, List.flatten_cons]; exact t.app (ih t)
  unfold mulRV at p
  split at p
  · rename_i ha
    cases py
    split at p
    · rename_i h
      obtain ⟨h1, h2, h3⟩ := h
      obtain ⟨l1, vs1, rfl, q1, t1⟩ := seqL_at w px ha
      exact op_rep pins s st H _ _ _ _ Q I rx ry ⟨_, _, _, rfl, rfl, q1, h1, h2, by rw [t1.length]; exact h3, (p.newR w (reps _ t1)).2⟩
    · exact p.elim
  · exact mul_ok hK I w px py rx ry p
theorem div_ok (I : Inv X pins st H s) (w : Wo F H J r S) {x y : Val} {vx vy : V} {ux uy : Value} (px : Rep F J r x vx) (py : Rep F J r y vy) (rx : RelV vx ux) (ry : RelV vy uy)
    (p : PoE F W st H J r (divV x y S) Q) : wpAny (model X.prog X.w) X.A (binaryOp .FloorDiv ux uy) (EP X pins st Q) X.xe s := by
  unfold divV at p
  split at p
  · cases px; cases py
    split at p
    · rename_i h
      unfold divOk at h
      obtain ⟨t, rfl⟩ := rx
      obtain ⟨t', rfl⟩ := ry
      obtain ⟨h1, h2⟩ := Bool.and_eq_true_iff.mp h
      exact PyProof.Rows.floordiv_int (of_decide_eq_true h1) ⟨.int _, H, I.tok _, ⟨_, rfl⟩, p.stay w (.int _)⟩ (.inl (by simpa using h2))
    · exact p.elim
  · exact p.elim
theorem mod_ok (I : Inv X pins st H s) (w : Wo F H J r S) {x y : Val} {vx vy : V} {ux uy : Value} (px : Rep F J r x vx) (py : Rep F J r y vy) (rx : RelV vx ux) (ry : RelV vy uy)
    (p : PoE F W st H J r (modV x y S) Q) : wpAny (model X.prog X.w) X.A (binaryOp .Mod ux uy) (EP X pins st Q) X.xe s := by
  unfold modV at p
  split at p
  · cases px; cases py
    split at p
    · rename_i h
      exact op_modN pins s st H _ _ _ _ Q I rx ry ⟨_, _, rfl, rfl, h, p.stay w (.int _)⟩
    · exact p.elim
  · exact p.elim
theorem pow_ok (I : Inv X pins st H s) (w : Wo F H J r S) {x y : Val} {vx vy : V} {ux uy : Value} (px : Rep F J r x vx) (py : Rep F J r y vy) (rx : RelV vx ux) (ry : RelV vy uy)
    (p : PoE F W st H J r (powV x y S) Q) : wpAny (model X.prog X.w) X.A (binaryOp .Pow ux uy) (EP X pins st Q) X.xe s := by
  unfold powV at p
  split at p
  · cases px; cases py
    split at p
    · rename_i h
      unfold powOk at h
      obtain ⟨t, rfl⟩ := rx
      obtain ⟨t', rfl⟩ := ry
      obtain ⟨h1, h2⟩ := Bool.and_eq_true_iff.mp h
      exact PyProof.Rows.pow_int (of_decide_eq_true h1) (of_decide_eq_true h2) ⟨.int _, H, I.tok _, ⟨_, rfl⟩, p.stay w (.int _)⟩
    · exact p.elim
  · exact p.elim
theorem bop_ok (hK : F.K = X.K) (o : Bop) (I : Inv X pins st H s) (w : Wo F H J r S) {x y : Val} {vx vy : V} {ux uy : Value} (px : Rep F J r x vx) (py : Rep F J r y vy) (rx : RelV vx ux) (ry : RelV vy uy)
    (p : PoE F W st H J r (bopV o x y S) Q) : wpAny (model X.prog X.w) X.A (binaryOp o.op ux uy) (EP X pins st Q) X.xe s := by
  cases o with
  | add => exact add_ok hK I w px py rx ry p
  | sub => exact sub_ok I w px py rx ry p
  | mul => exact mul_ok hK I w px py rx ry p
  | div => exact div_ok I w px py rx ry p
  | mod => exact mod_ok I w px py rx ry p
  | pow => exact pow_ok I w px py rx ry p
  | addR => exact addR_ok hK I w px py rx ry p
  | mulR => exact mulR_ok hK I w px py rx ry p
/-- two parts in a row -/
theorem two {a b : Expr} {fa fb : Enm → Store → Res Val} {g : Val → Val → Store → Res Val} (ha : PE X a (TT F W fa)) (hb : PE X b (TT F W fb)) (I : Inv X pins st H s)
    (p : TT F W (fun en S => (fa en S).bind fun x S1 => (fb en S1).bind fun y S2 => g x y S2) st H Q) {α : Type} {QQ : α → Shared → Prop} {f : Value → Value → Sem α}
    (hf : ∀ v u s2 vx vy H2 J2 r2 S2 x y, Inv X pins st H2 s2 → RelV vx v → RelV vy u → Wo F H2 J2 r2 S2 → Rep F J2 r2 x vx → Rep F J2 r2 y vy → PoE F W st H2 J2 r2 (g x y S2) Q → wpAny (model X.prog X.w) X.A (f v u) QQ X.xe s2) :
    wpAny (model X.prog X.w) X.A (eval a X.env) (fun v s1 => wpAny (model X.prog X.w) X.A (eval b X.env) (fun u s2 => wpAny (model X.prog X.w) X.A (f v u) QQ X.xe s2) X.xe s1) X.xe s := by
  refine thn (ha.run pins s st H _ I (TT.bind (g := fun en x S1 => (fb en S1).bind fun y S2 => g x y S2) p)) fun v s1 ⟨vx, H1, I1, r1, en, J1, ro1, S1, x, e1, w1, k1, p1⟩ => ?_
  refine thn (hb.run pins s1 st H1 _ I1 ⟨en, S1, J1, ro1, w1, e1, PoE.bind p1⟩) fun u s2 ⟨vy, H2, I2, r2, J2, ro2, S2, y, w2, l2, k2, p2⟩ => ?_
  exact hf v u s2 vx vy H2 J2 ro2 S2 x y I2 r1 r2 w2 (k1.le l2) k2 p2
theorem sd_bin (hK : F.K = X.K) (o : Bop) {a b : Expr} {fa fb : Enm → Store → Res Val} {pos : Pos} (ha : PE X a (TT F W fa)) (hb : PE X b (TT F W fb)) :
    PE X (.BinOp a o.op b pos) (TT F W fun en S => (fa en S).bind fun x S1 => (fb en S1).bind fun y S2 => bopV o x y S2) :=
  ⟨fun pins s st H Q I p => wpAny_BinOp (two ha hb I p fun v u s2 vx vy H2 J2 r2 S2 x y I2 rx ry w2 k1 k2 q => bop_ok hK o I2 w2 k1 k2 rx ry q)⟩
end
end GW
/-! Core 3: comparisons, truth, tests. -/
/-! numbers of more than six hundred figures, shown -/
namespace GW
open PySem
def digitsKey : Str := "sys.int_max_str_digits"
/-- no bound of figures has been set -/
def Free (h : Heap) : Prop := ∃ mc, h.Ns cStatics mc ∧ mc digitsKey = none
theorem Free.keeps {h h' : Heap} (f : Free h) (k : ∀ b o, h.get? b = some o → h'.get? b = some o) : Free h' := let ⟨mc, a, b⟩ := f; ⟨mc, a.keeps k, b⟩
section
variable {M : Model} {prog : Program} {w : World} {A : Around} {E : Value → Shared → Prop} {s : Shared}
theorem over_free {x : Int} {Q : Option Nat → Shared → Prop} (f : Free s.heap) (hx : x.natAbs.log2 < 12000) (hq : Q none s) : wpAny (model prog w) A (Builtin.overDigitLimit? x) Q E s := by
  unfold Builtin.overDigitLimit?
  by_cases h : x.natAbs.log2 < 1920
  · rw [if_pos h]; exact wpAny_pure hq
  · rw [if_neg h]
    obtain ⟨mc, hn, hm⟩ := f
    refine wpAny_bind (m := Builtin.intMaxStrDigits) ?_
    unfold Builtin.intMaxStrDigits
    refine wpAny_bind (wpAny_nsGet hn ?_)
    change mc "sys.int_max_str_digits" = none at hm
    rw [hm]
    refine wpAny_pure ?_
    have h1 : ¬ (x.natAbs.log2 / 30 + 1 > 1000) := by omega
    have h2 : (x.natAbs.log2 < 3 * 4300) := by omega
    simp only [h1, if_false, h2, or_true, if_true]
    simp
    exact wpAny_pure hq
theorem text_fits {i : Int} (hi : i.natAbs.log2 < 12000) : (Str.ofString (toString i)).length ≤ sizeLine := by
  rw [ofString_length]
  exact Nat.le_trans (int_text_length_le (k := 12000) (by decide) hi) (by decide)
theorem int_shown {i : Int} {t : Tok} (hi : i.natAbs.log2 < 12000) : Meets (Builtin.«int.__repr__» ⟨[.int i t], []⟩) (fun _ R s => Free s.heap ∧ R (.ok (.ret (.str (toString i) s.toks))) { s with toks := s.toks + 1 }) := fun prog w A R s ⟨f, h⟩ => by
  unfold Builtin.«int.__repr__»
  show wpAny _ _ (do let r ← Builtin.overDigitLimit? i; _) _ _ _
  refine wpAny_bind (over_free f hi ?_)
  exact wpAny_bind (wpAny_mkStr (wpAny_pure h) (text_fits hi))
theorem big_obj {i : Int} {t : Tok} {Q : Value → Shared → Prop} (f : Free s.heap) (hi : i.natAbs.log2 < 12000) (hu : A.units < cLine) (h : Q (.str (toString i) s.toks) { s with toks := s.toks + 1 }) : wpAny (model prog w) A (pyReprObj (.int i t)) Q E s :=
  wpAny_pyReprObj_slot hu (typeIs_int s i t) F.slot_int_repr.toG (call_meets F.slot_int_repr (typeIs_int s i t) F.entry_int_repr (F.args_int_repr_1 _) (int_shown hi) ⟨f, _, _, rfl, h⟩)
theorem big_call {i : Int} {t : Tok} {Q : Value → Shared → Prop} (f : Free s.heap) (hi : i.natAbs.log2 < 12000) (hu : A.units + 1 < cLine) (h : Q (.str (toString i) s.toks) { s with toks := s.toks + 1 }) : wpAny (model prog w) A (call (.builtin "repr") [.int i t]) Q E s :=
  call_repr_slot hu (typeIs_int s i t) F.slot_int_repr.toG (call_meets F.slot_int_repr (typeIs_int s i t) F.entry_int_repr (F.args_int_repr_1 _) (int_shown hi) ⟨f, _, _, rfl, h⟩)
theorem big_under {h0 : Heap} {i : Int} {t : Tok} {n : Nat} (f : Free h0) (hi : i.natAbs.log2 < 12000) : ReprK prog w [] h0 n (.int i t) (toString i) := fun m hm A g E s Q _ _ hu hk hQ => by
  rw [pyReprUnder_leaf (Nat.le_trans (Nat.le_add_right _ _) hm) (fun _ e => by cases e)]
  unfold pyRepr
  exact wpAny_bind (big_obj (f.keeps hk) hi (by omega) (wpAny_pure (hQ s.heap _ fun _ _ e => e)))
end
mutual
/-- data whose numbers are shown whole, without dicts -/
def big : PyData → Bool
  | .int i => decide (i.natAbs.log2 < 12000)
  | .list xs => bigs xs
  | .tuple xs => bigs xs
  | .dict _ => false
  | _ => true
def bigs : List PyData → Bool
  | [] => true
  | x :: xs => big x && bigs xs
end
section
variable {prog : Program} {w : World} {h0 : Heap}
mutual
theorem bigK (f : Free h0) : ∀ {v : Value} {d : PyData} {as : List Addr}, Reads h0 v d as → big d = true → d.shown.length ≤ sizeLine → ∃ bs, ReadAtMost h0 d.depth bs ∧ ReprK prog w bs h0 d.depth v d.shown
  | _, _, _, .none, _, _ => by
    refine ⟨[], (fun b h => nomatch h), ?_⟩
    unfold PyData.shown
    exact .of_is ReprIs.none _ _ _
  | _, _, _, .bool b, _, _ => by
    refine ⟨[], (fun b h => nomatch h), ?_⟩
    unfold PyData.shown
    exact .of_is (ReprIs.bool b) _ _ _
  | _, _, _, .int i t, hb, _ => by
    refine ⟨[], (fun b h => nomatch h), ?_⟩
    unfold PyData.shown
    exact big_under f (by unfold big at hb; exact of_decide_eq_true hb)
  | _, _, _, .str x t, _, hz => by
    refine ⟨[], (fun b h => nomatch h), ?_⟩
    unfold PyData.shown at hz ⊢
    exact .of_is (ReprIs.str x t hz) _ _ _
  | _, _, _, .list (a := a) (vs := vs) (xs := xs) g1 g2 g3 g4, hb, hz => by
    unfold big at hb
    unfold PyData.shown at hz
    obtain ⟨bs, r1, r2⟩ := bigsK f g4 hb fun t ht => Nat.le_trans (listText_mem_le ht) hz
    have dd : PyData.depthAll xs < (PyData.list xs).depth := by unfold PyData.depth; omega
    have rr : Reads h0 (.ref a) (.list xs) _ := .list g1 g2 g3 g4
    have out := not_mem_of_deeper rr dd r1
    refine ⟨a :: bs, .cons rr (Nat.le_of_lt dd) r1, ?_⟩
    unfold PyData.shown PyData.depth
    obtain ⟨l⟩ := vs
    cases l with
    | cons x l => exact ReprK.list g1 g2 g3 out (by rw [r2.length_eq, List.size_toArray]) fun i y e => r2.item i y (by simpa using e)
    | nil =>
      have q : ReadsAll h0 [] xs _ := g4
      cases q
      have e : listText (PyData.shownAll []) = "[]" := listText_nil
      rw [e]
      exact ReprK.listEmpty g1 g2 g3
  | _, _, _, .tuple (a := a) (xs := xs) g1 g2 g3 g4, hb, hz => by
    unfold big at hb
    unfold PyData.shown at hz
    obtain ⟨bs, r1, r2⟩ := bigsK f g4 hb fun t ht => Nat.le_trans (tupleText_mem_le ht) hz
    have dd : PyData.depthAll xs < (PyData.tuple xs).depth := by unfold PyData.depth; omega
    have rr : Reads h0 (.ref a) (.tuple xs) _ := .tuple g1 g2 g3 g4
    refine ⟨a :: bs, .cons rr (Nat.le_of_lt dd) r1, ?_⟩
    unfold PyData.shown PyData.depth
    exact ReprK.tuple g1 g2 g3 (not_mem_of_deeper rr dd r1) r2
  | _, _, _, .dict _ _ _ _ _, hb, _ => by unfold big at hb; cases hb
theorem bigsK (f : Free h0) : ∀ {vs : List Value} {ds : List PyData} {as : List Addr}, ReadsAll h0 vs ds as → bigs ds = true → (∀ t ∈ PyData.shownAll ds, t.length ≤ sizeLine) → ∃ bs, ReadAtMost h0 (PyData.depthAll ds) bs ∧ ReprAllK prog w bs h0 (PyData.depthAll ds) vs (PyData.shownAll ds)
  | _, _, _, .nil, _, _ => ⟨[], fun b h => (by cases h), by unfold PyData.shownAll; exact .nil⟩
  | _, _, _, .cons (d := d) (ds := ds) r rs, hb, hz => by
    unfold bigs at hb
    unfold PyData.shownAll at hz
    obtain ⟨c1, c2⟩ := Bool.and_eq_true_iff.mp hb
    obtain ⟨b1, p1, q1⟩ := bigK f r c1 (hz _ (List.mem_cons_self ..))
    obtain ⟨b2, p2, q2⟩ := bigsK f rs c2 fun t ht => hz t (List.mem_cons_of_mem _ ht)
    have l1 : d.depth ≤ PyData.depthAll (d :: ds) := by unfold PyData.depthAll; omega
    have l2 : PyData.depthAll ds ≤ PyData.depthAll (d :: ds) := by rw [PyData.depthAll]; omega
    refine ⟨b1 ++ b2, (p1.mono l1).append (p2.mono l2), ?_⟩
    unfold PyData.shownAll
    exact .cons ((q1.more fun b h => List.mem_append_left _ h).level_le l1) (q2.more_le (fun b h => List.mem_append_right _ h) l2)
end
/-- repr of a list, a tuple -/
theorem big_repr (f : Free h0) {a : Addr} {d : PyData} {as : List Addr} (r : Reads h0 (.ref a) d as) (hb : big d = true) (hz : d.shown.length ≤ sizeLine) {A : Around} {E : Value → Shared → Prop} {s : Shared} {Q : Value → Shared → Prop}
    (hg : A.guards = some []) (hu : A.units + (d.depth + 1) < cLine) (hk : ∀ b o, h0.get? b = some o → s.heap.get? b = some o)
    (hQ : ∀ h' u tk, (∀ b o, s.heap.get? b = some o → h'.get? b = some o) → Q (.str d.shown u) { s with heap := h', toks := tk }) : wpAny (model prog w) A (call (.builtin "repr") [.ref a]) Q E s := by
  have hu1 : A.units + 1 < cLine := by omega
  cases r with
  | list g1 g2 g3 g4 =>
    rename_i o vs n xs bs0
    unfold big at hb
    unfold PyData.shown at hz hQ
    have rr : Reads h0 (.ref a) (.list xs) _ := .list g1 g2 g3 g4
    obtain ⟨bs, r1, r2⟩ := bigsK (prog := prog) (w := w) f g4 hb fun t ht => Nat.le_trans (listText_mem_le ht) hz
    have dd : PyData.depthAll xs < (PyData.list xs).depth := by unfold PyData.depth; omega
    have un : A.in1.units + (PyData.depthAll xs + 1) < cLine := by
      unfold PyData.depth at hu
      show A.units + 1 + (PyData.depthAll xs + 1) < cLine
      omega
    refine call_repr_slot hu1 ⟨o, hk _ _ g1, g2⟩ F.slot_list_repr.toG ?_
    obtain ⟨l⟩ := vs
    cases l with
    | cons x l => exact call_list_reprK g1 g2 g3 (not_mem_of_deeper rr dd r1) (by rw [r2.length_eq, List.size_toArray]) (fun i y e => r2.item i y (by simpa using e)) hg (fun b _ => Clear.nil b) un hk (fun h' u tk q => ⟨_, _, rfl, hQ h' u tk q⟩) hz
    | nil =>
      have q : ReadsAll h0 [] xs _ := g4
      cases q
      have e : listText (PyData.shownAll []) = "[]" := listText_nil
      rw [e] at hQ
      exact call_list_repr_empty ⟨o, hk _ _ g1, g2⟩ (hk _ _ g1) g3 ⟨_, _, rfl, hQ s.heap _ _ fun _ _ e => e⟩
  | tuple g1 g2 g3 g4 =>
    rename_i o vs n xs
    unfold big at hb
    unfold PyData.shown at hz hQ
    have rr : Reads h0 (.ref a) (.tuple xs) _ := .tuple g1 g2 g3 g4
    obtain ⟨bs, r1, r2⟩ := bigsK (prog := prog) (w := w) f g4 hb fun t ht => Nat.le_trans (tupleText_mem_le ht) hz
    have dd : PyData.depthAll xs < (PyData.tuple xs).depth := by unfold PyData.depth; omega
    have un : A.in1.units + (PyData.depthAll xs + 1) < cLine := by
      unfold PyData.depth at hu
      show A.units + 1 + (PyData.depthAll xs + 1) < cLine
      omega
    refine call_repr_slot hu1 ⟨o, hk _ _ g1, g2⟩ F.slot_tuple_repr ?_
    exact call_tuple_reprK g1 g2 g3 (not_mem_of_deeper rr dd r1) r2 hg (fun b _ => Clear.nil b) un hk (fun h' u tk q => ⟨_, _, rfl, hQ h' u tk q⟩) hz
  | dict _ _ _ _ _ => unfold big at hb; cases hb
end
end GW
namespace GW
open PySem L2

def keyD : Key → PyData
  | .inl i => .int i
  | .inr x => .str x
def allD (f : Val → Option PyData) : List Val → Option (List PyData)
  | [] => some []
  | x :: xs => match f x, allD f xs with
    | some d, some ds => some (d :: ds)
    | _, _ => none
/-- a value as data -/
def toD (S : Store) : Nat → Val → Option PyData
  | 0, _ => none
  | n + 1, v => match v with
    | .non => some .none
    | .bl b => some (.bool b)
    | .int i => some (.int i)
    | .str x => some (.str x)
    | .tup xs => (allD (toD S n) xs).map .tuple
    | .lst xs => (allD (toD S n) xs).map .list
    | .ref l => (match S[l]? with
      | some (.lst xs) => (allD (toD S n) xs).map .list
      | some (.dct ks vs) => (allD (toD S n) vs).map fun ds => .dict ((ks.map keyD).zip ds)
      | none => none)
    | _ => none
def scalE (x y : Val) : Option Bool := match x, y with
  | .non, .non => some true
  | .non, .int _ => some false
  | .int _, .non => some false
  | .non, .bl _ => some false
  | .bl _, .non => some false
  | .non, .str _ => some false
  | .str _, .non => some false
  | .int i, .int j => some (decide (i = j))
  | .bl i, .bl j => some (decide (i = j))
  | .str i, .str j => some (decide (i = j))
  | .int _, .str _ => some false
  | .str _, .int _ => some false
  | .bl _, .str _ => some false
  | .str _, .bl _ => some false
  | _, _ => none
def datE (S : Store) (x y : Val) : Option Bool := match toD S 12 x, toD S 12 y with
  | some d, some e => if (SeqAt.shaped d && SeqAt.shaped e) = true then some (PyData.eqv d e) else none
  | _, _ => none
def samL (f : Val → Val → Bool) : List Val → List Val → Bool
  | [], [] => true
  | x :: xs, y :: ys => f x y && samL f xs ys
  | _, _ => false
/-- surely equal: the very same thing of the store counts as equal -/
def samE (S : Store) : Nat → Val → Val → Bool
  | 0, _, _ => false
  | n + 1, x, y => match scalE x y with
    | some b => b
    | none => (match x, y with
      | .ref l, .ref m => decide (l = m)
      | .tup xs, .tup ys => samL (samE S n) xs ys
      | x, y => (match seqL S x, seqL S y with
        | some xs, some ys => samL (samE S n) xs ys
        | _, _ => false))
def topS (S : Store) (x y : Val) : Bool := match x, y with
  | .tup xs, .tup ys => samL (samE S 11) xs ys
  | x, y => (match seqL S x, seqL S y with
    | some xs, some ys => samL (samE S 11) xs ys
    | _, _ => false)
def eqV (S : Store) (x y : Val) : Option Bool := match scalE x y with
  | some b => some b
  | none => if topS S x y = true then some true else datE S x y
def optB (S : Store) : Option Bool → Res Val
  | some b => .ok (.bl b) S
  | none => .stk

section
variable {F : Fx} {X : Cx} {W : WS} {pins : List (Addr × Obj)} {s : Shared} {st : L2.St} {H J : Hp} {r : List Addr} {S : Store} {Q : VK}
theorem allD_dp (w : Wo F H J r S) (f : Val → Option PyData) (ih : ∀ x v d, Rep F J r x v → f x = some d → d.canLay0 = true → Dp F.K H v d) : ∀ {xs : List Val} {vs : List V} {ds : List PyData}, Reps F J r xs vs → allD f xs = some ds → PyData.canLayAll0 ds = true → DpAll F.K H vs ds
  | _, _, _, .nil, e, _ => by cases e; exact .nil
  | _, _, ds, .cons (x := x) (xs := xs) a b, e, h => by
    unfold allD at e
    cases q1 : f x with
    | none => rw [q1] at e; cases e
    | some d =>
      cases q2 : allD f xs with
      | none => rw [q1, q2] at e; cases e
      | some ds' =>
        rw [q1, q2] at e
        cases e
        obtain ⟨h1, h2⟩ := Bool.and_eq_true_iff.mp h
        exact .cons (ih _ _ _ a q1 h1) (allD_dp w f ih b q2 h2)
theorem toD_dp (w : Wo F H J r S) : ∀ (n : Nat) (x : Val) (v : V) (d : PyData), Rep F J r x v → toD S n x = some d → d.canLay0 = true → Dp F.K H v d
  | 0, _, _, _, _, e, _ => by cases e
  | n + 1, x, v, d, k, e, h => by
    cases k with
    | non => cases e; exact .non
    | bl b => cases e; exact .bl b
    | int i => cases e; exact .int i
    | str x => cases e; exact .str x
    | tup q t =>
      simp only [toD, Option.map_eq_some_iff] at e
      obtain ⟨ds, e1, rfl⟩ := e
      exact .tup (sqT_H w q) (allD_dp w _ (toD_dp w n) t e1 h)
    | lst q t =>
      simp only [toD, Option.map_eq_some_iff] at e
      obtain ⟨ds, e1, rfl⟩ := e
      exact .lst (SqL.of (w.sub _ _ q)) (allD_dp w _ (toD_dp w n) t e1 h)
    | scr q t => cases e
    | ref q =>
      simp only [toD] at e
      split at e
      · rename_i xs e0
        simp only [Option.map_eq_some_iff] at e
        obtain ⟨ds, e1, rfl⟩ := e
        obtain ⟨b, e2, vs, e3, t⟩ := w.obs _ _ e0
        rw [q] at e2
        cases e2
        exact .lst (SqL.of e3) (allD_dp w _ (toD_dp w n) t e1 h)
      · simp only [Option.map_eq_some_iff] at e
        obtain ⟨ds, e1, rfl⟩ := e
        cases h
      · cases e
    | fn f => cases e
    | exc _ _ => cases e
theorem scal_of {x y : Val} {vx vy : V} {b : Bool} (px : Rep F J r x vx) (py : Rep F J r y vy) (h : scalE x y = some b) : scal vx vy = true ∧ decide (vx = vy) = b := by
  unfold scalE at h
  split at h <;> first | (cases h; done) | (cases h; cases px; cases py; exact ⟨rfl, by simp⟩)
theorem samL_at {A : Around} {f : Val → Val → Bool} (ih : ∀ x y vx vy ux uy, f x y = true → Rep F J r x vx → Rep F J r y vy → RelV vx ux → RelV vy uy → SeqAt.EqAt A s ux uy true) :
    ∀ {xs ys : List Val} {vs us : List V} {as bs : List Value}, samL f xs ys = true → Reps F J r xs vs → Reps F J r ys us → Vals vs as → Vals us bs → as.length = bs.length ∧ ∀ j (h1 : j < as.length) (h2 : j < bs.length), SeqAt.EqAt A s as[j] bs[j] true
  | [], [], _, _, _, _, _, .nil, .nil, .nil, .nil => ⟨rfl, fun j h1 _ => absurd h1 (Nat.not_lt_zero j)⟩
  | x :: xs, y :: ys, _, _, _, _, h, .cons a1 a2, .cons b1 b2, .cons c1 c2, .cons d1 d2 => by
    obtain ⟨h1, h2⟩ := Bool.and_eq_true_iff.mp (show (f x y && samL f xs ys) = true from h)
    obtain ⟨q1, q2⟩ := samL_at ih h2 a2 b2 c2 d2
    refine ⟨congrArg (· + 1) q1, fun j g1 g2 => ?_⟩
    cases j with
    | zero => exact ih _ _ _ _ _ _ h1 a1 b1 c1 d1
    | succ j => exact q2 j (Nat.lt_of_succ_lt_succ g1) (Nat.lt_of_succ_lt_succ g2)
  | [], _ :: _, _, _, _, _, h, _, _, _, _ => by cases h
  | _ :: _, [], _, _, _, _, h, _, _, _, _ => by cases h
theorem all_true (n : Nat) : ((List.range n).all fun _ => true) = true := List.all_eq_true.mpr fun _ _ => rfl
theorem rc_lists (hK : F.K = X.K) {A : Around} (hu : A.units < cLine) (I : Inv X pins st H s) (w : Wo F H J r S) {f : Val → Val → Bool} (ih : ∀ x y vx vy ux uy, f x y = true → Rep F J r x vx → Rep F J r y vy → RelV vx ux → RelV vy uy → SeqAt.EqAt A.in1 s ux uy true)
    {x y : Val} {vx vy : V} {ux uy : Value} {xs ys : List Val} (hx : seqL S x = some xs) (hy : seqL S y = some ys) (h : samL f xs ys = true) (px : Rep F J r x vx) (py : Rep F J r y vy) (rx : RelV vx ux) (ry : RelV vy uy) :
    SeqAt.RcAt A s ux uy true ∧ SeqAt.RcNeAt A s ux uy false ∧ ∃ a b, ux = .ref a ∧ uy = .ref b := by
  obtain ⟨a, vs, rfl, ha, ta⟩ := seqL_at w px hx
  obtain ⟨b, us, rfl, hb, tb⟩ := seqL_at w py hy
  cases rx
  cases ry
  obtain ⟨as, ra, la, _⟩ := I.list (SqL.of ha)
  obtain ⟨bs, rb, lb, _⟩ := I.list (SqL.of hb)
  obtain ⟨q1, q2⟩ := samL_at ih h ta tb ra rb
  have e1 := SeqAt.RcAt.lists (e := fun _ => true) la.isList lb.isList (by simpa using q1) hu (fun j h1 h2 => by simpa using q2 j (by simpa using h1) (by simpa using h2))
  have e2 := SeqAt.RcNeAt.lists (e := fun _ => true) la.isList lb.isList (by simpa using q1) hu (fun j h1 h2 => by simpa using q2 j (by simpa using h1) (by simpa using h2))
  rw [all_true] at e1 e2
  exact ⟨e1, e2, a, b, rfl, rfl⟩
theorem rc_tups (hK : F.K = X.K) {A : Around} (hu : A.units < cLine) (I : Inv X pins st H s) (w : Wo F H J r S) {f : Val → Val → Bool} (ih : ∀ x y vx vy ux uy, f x y = true → Rep F J r x vx → Rep F J r y vy → RelV vx ux → RelV vy uy → SeqAt.EqAt A.in1 s ux uy true)
    {vx vy : V} {ux uy : Value} {xs ys : List Val} (h : samL f xs ys = true) (px : Rep F J r (.tup xs) vx) (py : Rep F J r (.tup ys) vy) (rx : RelV vx ux) (ry : RelV vy uy) :
    SeqAt.RcAt A s ux uy true ∧ SeqAt.RcNeAt A s ux uy false ∧ ∃ a b, ux = .ref a ∧ uy = .ref b := by
  cases px with
  | tup ha ta =>
    cases py with
    | tup hb tb =>
      cases rx
      cases ry
      obtain ⟨as, ra, la, _⟩ := I.tuple (hK ▸ sqT_H w ha)
      obtain ⟨bs, rb, lb, _⟩ := I.tuple (hK ▸ sqT_H w hb)
      obtain ⟨q1, q2⟩ := samL_at ih h ta tb ra rb
      have hs : as.toArray.size = bs.toArray.size := by simpa using q1
      have e1 := SeqAt.RcAt.tuples (e := fun _ => true) la lb hu (fun j h1 h2 => by simpa using q2 j (by simpa using h1) (by simpa using h2))
      have e2 := SeqAt.RcNeAt.tuples (e := fun _ => true) la lb hu (fun j h1 h2 => by simpa using q2 j (by simpa using h1) (by simpa using h2))
      rw [all_true, hs, beq_self_eq_true] at e1 e2
      exact ⟨e1, e2, _, _, rfl, rfl⟩
theorem eqAt_refs {A : Around} {ux uy : Value} (h : SeqAt.RcAt A s ux uy true) (e : ∃ a b, ux = .ref a ∧ uy = .ref b) : SeqAt.EqAt A s ux uy true := by
  obtain ⟨a, b, rfl, rfl⟩ := e
  by_cases hab : a = b
  · subst hab; exact SeqAt.EqAt.same _
  · exact SeqAt.EqAt.of_refs hab h
theorem samE_ok (hK : F.K = X.K) (I : Inv X pins st H s) (w : Wo F H J r S) : ∀ (n : Nat) (A : Around), A.units + n < cLine → ∀ x y vx vy ux uy, samE S n x y = true → Rep F J r x vx → Rep F J r y vy → RelV vx ux → RelV vy uy → SeqAt.EqAt A s ux uy true
  | 0, _, _, _, _, _, _, _, _, h, _, _, _, _ => by cases h
  | n + 1, A, hu, x, y, vx, vy, ux, uy, h, px, py, rx, ry => by
    have ih := samE_ok hK I w n A.in1 (by show A.units + 1 + n < cLine; omega)
    unfold samE at h
    split at h
    · rename_i b hb
      subst h
      obtain ⟨h1, h2⟩ := scal_of px py hb
      have e := of_decide_eq_true h2
      subst e
      exact eqAt_same rx ry (by cases vx <;> first | rfl | (cases h1; done) | (cases px; done))
    · split at h
      · have e := of_decide_eq_true h
        subst e
        cases px with
        | ref q1 =>
          cases py with
          | ref q2 =>
            rw [q1] at q2
            cases q2
            cases rx
            cases ry
            exact SeqAt.EqAt.same _
      · obtain ⟨q1, _, q3⟩ := rc_tups hK (by omega) I w ih h px py rx ry
        exact eqAt_refs q1 q3
      · split at h
        · rename_i hx hy
          obtain ⟨q1, _, q3⟩ := rc_lists hK (by omega) I w ih hx hy h px py rx ry
          exact eqAt_refs q1 q3
        · cases h
theorem topS_ok (hK : F.K = X.K) (hu : X.A.units + 64 < cLine) (I : Inv X pins st H s) (w : Wo F H J r S) {x y : Val} {vx vy : V} {ux uy : Value} (h : topS S x y = true) (px : Rep F J r x vx) (py : Rep F J r y vy) (rx : RelV vx ux) (ry : RelV vy uy) :
    SeqAt.RcAt X.A s ux uy true ∧ SeqAt.RcNeAt X.A s ux uy false := by
  have ih := samE_ok hK I w 11 X.A.in1 (by show X.A.units + 1 + 11 < cLine; omega)
  unfold topS at h
  split at h
  · obtain ⟨q1, q2, _⟩ := rc_tups hK (by omega) I w ih h px py rx ry
    exact ⟨q1, q2⟩
  · split at h
    · rename_i hx hy
      obtain ⟨q1, q2, _⟩ := rc_lists hK (by omega) I w ih hx hy h px py rx ry
      exact ⟨q1, q2⟩
    · cases h
theorem optB_some {o : Option Bool} (p : PoE F W st H J r (optB S o) Q) : ∃ b, o = some b ∧ PoE F W st H J r (.ok (.bl b) S) Q := by
  cases o with
  | none => exact p.elim
  | some b => exact ⟨b, rfl, p⟩
theorem eq_ok (hK : F.K = X.K) (hu : X.A.units + 64 < cLine) (I : Inv X pins st H s) (w : Wo F H J r S) {x y : Val} {vx vy : V} {ux uy : Value} (px : Rep F J r x vx) (py : Rep F J r y vy) (rx : RelV vx ux) (ry : RelV vy uy)
    (p : PoE F W st H J r (optB S (eqV S x y)) Q) : wpAny (model X.prog X.w) X.A (compareOp .Eq ux uy) (EP X pins st Q) X.xe s := by
  obtain ⟨b, e, p⟩ := optB_some p
  unfold eqV at e
  split at e
  · rename_i b' h
    cases e
    obtain ⟨h1, h2⟩ := scal_of px py h
    exact op_eq pins s st H _ _ _ _ Q I rx ry ⟨h1, by rw [h2]; exact p.stay w (.bl _)⟩
  · split at e
    · rename_i ht
      cases e
      exact (topS_ok hK hu I w ht px py rx ry).1 X.prog X.w _ _ ⟨.bl true, H, I, rfl, p.stay w (.bl _)⟩
    unfold datE at e
    split at e
    · rename_i d1 d2 e1 e2
      split at e
      · rename_i hs
        cases e
        obtain ⟨s1, s2⟩ := Bool.and_eq_true_iff.mp hs
        have k1 := toD_dp w _ _ _ _ px e1 (SeqAt.canLay_of_shaped s1)
        have k2 := toD_dp w _ _ _ _ py e2 (SeqAt.canLay_of_shaped s2)
        rw [hK] at k1 k2
        exact op_eqD hu pins s st H _ _ _ _ Q I rx ry ⟨_, _, k1, k2, s1, s2, p.stay w (.bl _)⟩
      · cases e
    · cases e
theorem ne_ok (hK : F.K = X.K) (hu : X.A.units + 64 < cLine) (I : Inv X pins st H s) (w : Wo F H J r S) {x y : Val} {vx vy : V} {ux uy : Value} (px : Rep F J r x vx) (py : Rep F J r y vy) (rx : RelV vx ux) (ry : RelV vy uy)
    (p : PoE F W st H J r (optB S ((eqV S x y).map not)) Q) : wpAny (model X.prog X.w) X.A (compareOp .NotEq ux uy) (EP X pins st Q) X.xe s := by
  obtain ⟨b, e0, p⟩ := optB_some p
  obtain ⟨c, e, rfl⟩ := Option.map_eq_some_iff.mp e0
  clear e0
  unfold eqV at e
  split at e
  · rename_i b' h
    cases e
    obtain ⟨h1, h2⟩ := scal_of px py h
    exact op_ne pins s st H _ _ _ _ Q I rx ry ⟨h1, by rw [h2]; exact p.stay w (.bl _)⟩
  · split at e
    · rename_i ht
      cases e
      exact (topS_ok hK hu I w ht px py rx ry).2 X.prog X.w _ _ ⟨.bl false, H, I, rfl, p.stay w (.bl _)⟩
    unfold datE at e
    split at e
    · rename_i d1 d2 e1 e2
      split at e
      · rename_i hs
        cases e
        obtain ⟨s1, s2⟩ := Bool.and_eq_true_iff.mp hs
        have k1 := toD_dp w _ _ _ _ px e1 (SeqAt.canLay_of_shaped s1)
        have k2 := toD_dp w _ _ _ _ py e2 (SeqAt.canLay_of_shaped s2)
        rw [hK] at k1 k2
        exact op_neD hu pins s st H _ _ _ _ Q I rx ry ⟨_, _, k1, k2, s1, s2, p.stay w (.bl _)⟩
      · cases e
    · cases e
end

inductive Cop where
  | eq | ne | lt | le | gt | ge | is | isn | inn | nin
def Cop.op : Cop → CmpOp
  | .eq => .Eq | .ne => .NotEq | .lt => .Lt | .le => .LtE | .gt => .Gt | .ge => .GtE | .is => .Is | .isn => .IsNot | .inn => .In | .nin => .NotIn
def intC (f : Int → Int → Bool) (x y : Val) : Option Bool := match x, y with
  | .int i, .int j => some (f i j)
  | _, _ => none
def isE (x y : Val) : Option Bool := match y with
  | .non => (match x with
    | .non => some true
    | _ => some false)
  | .bl b => (match x with
    | .bl a => some (decide (a = b))
    | _ => none)
  | _ => none
/-- a flat value -/
def flat1 : Val → Option V
  | .non => some .non
  | .bl b => some (.bl b)
  | .int i => some (.int i)
  | .str x => some (.str x)
  | _ => none
def flats : List Val → Option (List V)
  | [] => some []
  | x :: xs => match flat1 x, flats xs with
    | some v, some vs => some (v :: vs)
    | _, _ => none
def memE (x : Val) (xs : List Val) : Option Bool := match flat1 x, flats xs with
  | some v, some vs => some (L2.inV v vs)
  | _, _ => none
def sign1 (a : Str) : Option Nat := match a.cps.toList with
  | [c] => some c
  | _ => none
theorem sign1_eq {a : Str} {c : Nat} (h : sign1 a = some c) : a = ⟨#[c]⟩ := by
  unfold sign1 at h
  split at h
  · rename_i d e
    cases h
    obtain ⟨⟨l⟩⟩ := a
    simp only at e
    rw [e]
  · cases h
def inE (S : Store) (x y : Val) : Option Bool := match y with
  | .str z => (match x with
    | .str a => (sign1 a).map fun c => decide (c ∈ z.cps.toList)
    | _ => none)
  | .tup xs => memE x xs
  | .lst xs => memE x xs
  | .ref l => (match S[l]? with
    | some (.lst xs) => memE x xs
    | _ => none)
  | _ => none
def cmpE (o : Cop) (x y : Val) (S : Store) : Option Bool := match o with
  | .eq => eqV S x y
  | .ne => (eqV S x y).map not
  | .lt => intC (fun i j => decide (i < j)) x y
  | .le => intC (fun i j => decide (i ≤ j)) x y
  | .gt => intC (fun i j => decide (j < i)) x y
  | .ge => intC (fun i j => decide (j ≤ i)) x y
  | .is => isE x y
  | .isn => (isE x y).map not
  | .inn => inE S x y
  | .nin => (inE S x y).map not

section
variable {F : Fx} {X : Cx} {W : WS} {pins : List (Addr × Obj)} {s : Shared} {st : L2.St} {H J : Hp} {r : List Addr} {S : Store} {Q : VK}
theorem flat1_rep {x : Val} {v u : V} (p : Rep F J r x v) (h : flat1 x = some u) : v = u ∧ L2.flatV v = true := by
  unfold flat1 at h
  split at h <;> first | (cases h; done) | (cases p; cases h; exact ⟨rfl, rfl⟩)
theorem flats_rep : ∀ {xs : List Val} {vs us : List V}, Reps F J r xs vs → flats xs = some us → vs = us ∧ vs.all L2.flatV = true
  | _, _, us, .nil, h => by cases h; exact ⟨rfl, rfl⟩
  | _, _, us, .cons (x := x) (xs := xs) a b, h => by
    unfold flats at h
    cases q1 : flat1 x with
    | none => rw [q1] at h; cases h
    | some d =>
      cases q2 : flats xs with
      | none => rw [q1, q2] at h; cases h
      | some ds =>
        rw [q1, q2] at h
        cases h
        obtain ⟨e1, f1⟩ := flat1_rep a q1
        obtain ⟨e2, f2⟩ := flats_rep b q2
        subst e1 e2
        exact ⟨rfl, by rw [List.all_cons, f1, f2]; rfl⟩
theorem in_core (hK : F.K = X.K) (w : Wo F H J r S) {x y : Val} {vx vy : V} {b : Bool} (px : Rep F J r x vx) (py : Rep F J r y vy) (h : inE S x y = some b) :
    (∃ (c : Nat) (z : Str), vx = .str ⟨#[c]⟩ ∧ vy = .str z ∧ decide (c ∈ z.cps.toList) = b) ∨
    (∃ p ys, vy = .ref p ∧ (SqL X.K H p ys ∨ SqT X.K H p ys) ∧ L2.flatV vx = true ∧ ys.all L2.flatV = true ∧ L2.inV vx ys = b) := by
  have mem : ∀ {xs : List Val} {vs : List V}, Reps F J r xs vs → memE x xs = some b → L2.flatV vx = true ∧ vs.all L2.flatV = true ∧ L2.inV vx vs = b := fun {xs vs} t e => by
    unfold memE at e
    cases q1 : flat1 x with
    | none => rw [q1] at e; cases e
    | some d =>
      cases q2 : flats xs with
      | none => rw [q1, q2] at e; cases e
      | some ds =>
        rw [q1, q2] at e
        obtain ⟨e1, f1⟩ := flat1_rep px q1
        obtain ⟨e2, f2⟩ := flats_rep t q2
        subst e1 e2
        exact ⟨f1, f2, Option.some.inj e⟩
  cases py with
  | str z =>
    simp only [inE] at h
    split at h
    · cases px
      obtain ⟨c, h1, h2⟩ := Option.map_eq_some_iff.mp h
      rw [sign1_eq h1]
      exact .inl ⟨_, _, rfl, rfl, h2⟩
    · cases h
  | tup q t =>
    obtain ⟨f1, f2, f3⟩ := mem t h
    exact .inr ⟨_, _, rfl, .inr (hK ▸ sqT_H w q), f1, f2, f3⟩
  | lst q t =>
    obtain ⟨f1, f2, f3⟩ := mem t h
    exact .inr ⟨_, _, rfl, .inl (SqL.of (w.sub _ _ q)), f1, f2, f3⟩
  | ref q =>
    simp only [inE] at h
    split at h
    · rename_i xs e0
      obtain ⟨b', e2, vs, e3, t⟩ := w.obs _ _ e0
      rw [q] at e2
      cases e2
      obtain ⟨f1, f2, f3⟩ := mem t h
      exact .inr ⟨_, _, rfl, .inl (SqL.of e3), f1, f2, f3⟩
    · cases h
  | _ => cases h
theorem is_core {x y : Val} {vx vy : V} {b : Bool} (px : Rep F J r x vx) (py : Rep F J r y vy) (h : isE x y = some b) :
    (vy = .non ∧ decide (vx = .non) = b) ∨ (∃ a c, vx = .bl a ∧ vy = .bl c ∧ decide (a = c) = b) := by
  cases py with
  | non =>
    simp only [isE] at h
    cases px <;> first | (cases h; exact .inl ⟨rfl, by simp⟩)
  | bl c =>
    simp only [isE] at h
    cases px <;> first | (cases h; done) | exact .inr ⟨_, _, rfl, rfl, Option.some.inj h⟩
  | _ => cases h
theorem cmp_ok (hK : F.K = X.K) (hu : X.A.units + 64 < cLine) (o : Cop) (I : Inv X pins st H s) (w : Wo F H J r S) {x y : Val} {vx vy : V} {ux uy : Value} (px : Rep F J r x vx) (py : Rep F J r y vy) (rx : RelV vx ux) (ry : RelV vy uy)
    (p : PoE F W st H J r (optB S (cmpE o x y S)) Q) : wpAny (model X.prog X.w) X.A (compareOp o.op ux uy) (EP X pins st Q) X.xe s := by
  have intz : ∀ f : Int → Int → Bool, PoE F W st H J r (optB S (intC f x y)) Q → ∃ i j, vx = .int i ∧ vy = .int j ∧ Q (.bl (f i j)) H := fun f p => by
    obtain ⟨b, e, p⟩ := optB_some p
    unfold intC at e
    split at e
    · cases px; cases py; cases e
      exact ⟨_, _, rfl, rfl, p.stay w (.bl _)⟩
    · cases e
  cases o with
  | eq => exact eq_ok hK hu I w px py rx ry p
  | ne => exact ne_ok hK hu I w px py rx ry p
  | lt => exact op_lt pins s st H _ _ _ _ Q I rx ry (intz _ p)
  | le => exact op_le pins s st H _ _ _ _ Q I rx ry (intz _ p)
  | gt => exact op_gt pins s st H _ _ _ _ Q I rx ry (intz _ p)
  | ge => exact op_ge pins s st H _ _ _ _ Q I rx ry (intz _ p)
  | is =>
    obtain ⟨b, e, p⟩ := optB_some p
    rcases is_core px py e with ⟨e1, e2⟩ | ⟨a, c, e1, e2, e3⟩
    · exact op_isN pins s st H _ _ _ _ Q I rx ry ⟨e1, by rw [e2]; exact p.stay w (.bl _)⟩
    · exact op_is_bl pins s st H _ _ _ _ Q I rx ry ⟨a, c, e1, e2, by rw [e3]; exact p.stay w (.bl _)⟩
  | isn =>
    obtain ⟨b, e0, p⟩ := optB_some p
    obtain ⟨c0, e, rfl⟩ := Option.map_eq_some_iff.mp e0
    clear e0
    rcases is_core px py e with ⟨e1, e2⟩ | ⟨a, c, e1, e2, e3⟩
    · exact op_notN pins s st H _ _ _ _ Q I rx ry ⟨e1, by rw [e2]; exact p.stay w (.bl _)⟩
    · exact op_isnot_bl pins s st H _ _ _ _ Q I rx ry ⟨a, c, e1, e2, by rw [e3]; exact p.stay w (.bl _)⟩
  | inn =>
    obtain ⟨b, e, p⟩ := optB_some p
    rcases in_core hK w px py e with ⟨c, z, e1, e2, e3⟩ | ⟨q, ys, e1, e2, e3, e4, e5⟩
    · exact op_in_sign pins s st H _ _ _ _ Q I rx ry ⟨c, z, e1, e2, by rw [e3]; exact p.stay w (.bl _)⟩
    · exact op_in_seq pins s st H _ _ _ _ Q I rx ry ⟨q, ys, e1, e2, e3, e4, by rw [if_neg Bool.false_ne_true, e5]; exact p.stay w (.bl _)⟩
  | nin =>
    obtain ⟨b, e0, p⟩ := optB_some p
    obtain ⟨c0, e, rfl⟩ := Option.map_eq_some_iff.mp e0
    clear e0
    rcases in_core hK w px py e with ⟨c, z, e1, e2, e3⟩ | ⟨q, ys, e1, e2, e3, e4, e5⟩
    · exact op_notIn_sign pins s st H _ _ _ _ Q I rx ry ⟨c, z, e1, e2, by rw [e3]; exact p.stay w (.bl _)⟩
    · exact op_notIn_seq pins s st H _ _ _ _ Q I rx ry ⟨q, ys, e1, e2, e3, e4, by rw [if_pos rfl, e5]; exact p.stay w (.bl _)⟩
end

/-! ### truth -/
def truE (S : Store) (x : Val) : Option Bool := match x with
  | .non => some false
  | .bl b => some b
  | .int i => some (i != 0)
  | .str z => if z.length ≤ sizeLine then some ((z.length : Int) != 0) else none
  | .tup xs => some (!xs.isEmpty)
  | .lst xs => some (!xs.isEmpty)
  | .ref l => (match S[l]? with
    | some (.lst xs) => some (!xs.isEmpty)
    | some (.dct ks _) => some (!ks.isEmpty)
    | none => none)
  | _ => none
def truR (x : Val) (S : Store) : Res Bool := match truE S x with
  | some b => .ok b S
  | none => .stk
/-- what is asked of a test's answer -/
def PoB (F : Fx) (W : WS) (st : L2.St) (H J : Hp) (r : List Addr) (x : Res Bool) (Q : Bool → Hp → Prop) : Prop := match x with
  | .ok v S' => ∀ H' J' r', Wo F H' J' r' S' → Le H J r H' J' r' → Q v H'
  | .exc c fs S' => ∀ H' J' r' d ws, Wo F H' J' r' S' → Le H J r H' J' r' → J' d = some (.xd ((F.cf c).zip ws)) → Reps F J' r' fs ws → W.w (.ref (F.ca c)) (some d) st H'
  | .stk => False
def TB (F : Fx) (W : WS) (f : Enm → Store → Res Bool) : L2.TT := fun st H Q => ∃ en S J r, Wo F H J r S ∧ EnW F W J r en st ∧ PoB F W st H J r (f en S) Q
section
variable {F : Fx} {X : Cx} {W : WS} {pins : List (Addr × Obj)} {s : Shared} {st : L2.St} {H J H1 J1 : Hp} {r r1 : List Addr} {S : Store}
theorem PoB.le {x : Res Bool} {Q : Bool → Hp → Prop} (l : Le H J r H1 J1 r1) (p : PoB F W st H J r x Q) : PoB F W st H1 J1 r1 x Q := by
  cases x with
  | ok v S => exact fun H' J' r' a b => p H' J' r' a (l.trans b)
  | exc c fs S => exact fun H' J' r' d ws a b e f => p H' J' r' d ws a (l.trans b) e f
  | stk => exact p
/-- from a value on to a test's answer -/
theorem TB.ofE {f : Enm → Store → Res Val} {g : Enm → Val → Store → Res Bool} {Q : Bool → Hp → Prop} (p : TB F W (fun en S => (f en S).bind (g en)) st H Q) :
    TT F W f st H fun v H1 => ∃ en J1 r1 S1 x, EnW F W J1 r1 en st ∧ Wo F H1 J1 r1 S1 ∧ Rep F J1 r1 x v ∧ PoB F W st H1 J1 r1 (g en x S1) Q := by
  obtain ⟨en, S, J, r, w, e, p⟩ := p
  refine ⟨en, S, J, r, w, e, ?_⟩
  dsimp only at p
  cases h : f en S with
  | ok v S1 =>
    rw [h] at p
    exact fun H' J' r' vw a b c => ⟨en, J', r', S1, v, e.le b, a, c, PoB.le b p⟩
  | exc c fs S1 => rw [h] at p; exact p
  | stk => rw [h] at p; exact p
theorem TB.bind {f : Enm → Store → Res Bool} {g : Enm → Bool → Store → Res Bool} {Q : Bool → Hp → Prop} (p : TB F W (fun en S => (f en S).bind (g en)) st H Q) :
    TB F W f st H fun v H1 => ∃ en J1 r1 S1, EnW F W J1 r1 en st ∧ Wo F H1 J1 r1 S1 ∧ PoB F W st H1 J1 r1 (g en v S1) Q := by
  obtain ⟨en, S, J, r, w, e, p⟩ := p
  refine ⟨en, S, J, r, w, e, ?_⟩
  dsimp only at p
  cases h : f en S with
  | ok v S1 =>
    rw [h] at p
    exact fun H' J' r' a b => ⟨en, J', r', S1, e.le b, a, PoB.le b p⟩
  | exc c fs S1 => rw [h] at p; exact p
  | stk => rw [h] at p; exact p
theorem TT.ofB {f : Enm → Store → Res Bool} {g : Enm → Bool → Store → Res Val} {Q : VK} (p : TT F W (fun en S => (f en S).bind (g en)) st H Q) :
    TB F W f st H fun v H1 => ∃ en J1 r1 S1, EnW F W J1 r1 en st ∧ Wo F H1 J1 r1 S1 ∧ PoE F W st H1 J1 r1 (g en v S1) Q := by
  obtain ⟨en, S, J, r, w, e, p⟩ := p
  refine ⟨en, S, J, r, w, e, ?_⟩
  dsimp only at p
  cases h : f en S with
  | ok v S1 =>
    rw [h] at p
    exact fun H' J' r' a b => ⟨en, J', r', S1, e.le b, a, PoE.le b p⟩
  | exc c fs S1 => rw [h] at p; exact p
  | stk => rw [h] at p; exact p
theorem tru_core (hK : F.K = X.K) (w : Wo F H J r S) {x : Val} {v : V} {b : Bool} (p : Rep F J r x v) (h : truE S x = some b) : TruV X.K v H b := by
  have emp : ∀ {xs : List Val} {vs : List V}, Reps F J r xs vs → (!xs.isEmpty) = !vs.isEmpty := fun {xs vs} t => by cases t <;> rfl
  cases p with
  | non => cases h; rfl
  | bl b => cases h; rfl
  | int i => cases h; rfl
  | str z =>
    simp only [truE] at h
    split at h
    · rename_i hz; exact ⟨hz, (Option.some.inj h).symm⟩
    · cases h
  | tup q t => exact .inr (.inl ⟨_, hK ▸ sqT_H w q, by rw [← emp t]; exact (Option.some.inj h).symm⟩)
  | lst q t => exact .inl ⟨_, SqL.of (w.sub _ _ q), by rw [← emp t]; exact (Option.some.inj h).symm⟩
  | ref q =>
    simp only [truE] at h
    split at h
    · rename_i xs e0
      obtain ⟨b', e2, vs, e3, t⟩ := w.obs _ _ e0
      rw [q] at e2
      cases e2
      exact .inl ⟨_, SqL.of e3, by rw [← emp t]; exact (Option.some.inj h).symm⟩
    · rename_i ks xs e0
      obtain ⟨b', e2, vs, e3, t, hl⟩ := w.obs _ _ e0
      rw [q] at e2
      cases e2
      refine .inr (.inr ⟨_, e3, ?_⟩)
      rw [← Option.some.inj h]
      have hl2 := t.length
      cases ks with
      | nil => rfl
      | cons k ks =>
        cases vs with
        | nil => simp at hl hl2; omega
        | cons v vs => rfl
    · cases h
  | _ => cases h
variable {a b c : Expr} {pos : Pos}
theorem tst_val (hK : F.K = X.K) {f : Enm → Store → Res Val} (ha : PE X a (TT F W f)) (he : ∀ whole, isTrue a X.env whole = (do let v ← whole; standAt a.pos; holding [v] (truthy v))) :
    PT X a (TB F W fun en S => (f en S).bind truR) :=
  ⟨fun pins s st H Q I p => PyProof.Rows.isTrue_plain (thn (ha.run pins s st H _ I (TB.ofE (g := fun _ => truR) p)) fun v s1 ⟨vx, H1, I1, r1, en, J1, ro1, S1, x, e1, w1, k1, p1⟩ => by
    unfold truR at p1
    cases h : truE S1 x with
    | none => rw [h] at p1; exact p1.elim
    | some b =>
      rw [h] at p1
      exact tru_ok pins s1 st H1 vx v _ I1 r1 ⟨b, tru_core hK w1 k1 h, p1 H1 J1 ro1 w1 Le.refl⟩) (he _)⟩
def optT (S : Store) : Option Bool → Res Bool
  | some b => .ok b S
  | none => .stk
theorem sd_cmp (hK : F.K = X.K) (hu : X.A.units + 64 < cLine) (o : Cop) {fa fb : Enm → Store → Res Val} (ha : PE X a (TT F W fa)) (hb : PE X b (TT F W fb)) (hm : behindInMarks o.op b = false) :
    PE X (.Compare a [o.op] [b] pos) (TT F W fun en S => (fa en S).bind fun x S1 => (fb en S1).bind fun y S2 => optB S2 (cmpE o x y S2)) :=
  ⟨fun pins s st H Q I p => wpAny_Compare1 (two ha hb I p fun v u s2 vx vy H2 J2 r2 S2 x y I2 rx ry w2 k1 k2 q => cmp_ok hK hu o I2 w2 k1 k2 rx ry q) hm⟩
theorem tst_cmp (hK : F.K = X.K) (hu : X.A.units + 64 < cLine) (o : Cop) {fa fb : Enm → Store → Res Val} (ha : PE X a (TT F W fa)) (hb : PE X b (TT F W fb)) (hm : behindInMarks o.op b = false) :
    PT X (.Compare a [o.op] [b] pos) (TB F W fun en S => (fa en S).bind fun x S1 => (fb en S1).bind fun y S2 => optT S2 (cmpE o x y S2)) := by
  refine ⟨fun pins s st H Q I p => wpAny_isTrue_Compare1 ?_ hm⟩
  have p' : TT F W (fun en S => (fa en S).bind fun x S1 => (fb en S1).bind fun y S2 => optB S2 (cmpE o x y S2)) st H fun v H' => ∃ b, v = .bl b ∧ Q b H' := by
    obtain ⟨en, S, J, r, w, e, p⟩ := p
    refine ⟨en, S, J, r, w, e, ?_⟩
    cases h1 : fa en S with
    | stk => simp only [h1, Res.bind] at p; exact p.elim
    | exc c fs S1 => simp only [h1, Res.bind] at p ⊢; exact p
    | ok x S1 =>
      simp only [h1, Res.bind] at p ⊢
      cases h2 : fb en S1 with
      | stk => simp only [h2] at p; exact p.elim
      | exc c fs S2 => simp only [h2] at p ⊢; exact p
      | ok y S2 =>
        simp only [h2] at p ⊢
        cases h3 : cmpE o x y S2 with
        | none => rw [h3] at p; exact p.elim
        | some b =>
          rw [h3] at p
          exact fun H' J' r' w' a l k => by cases k; exact ⟨b, rfl, p H' J' r' a l⟩
  refine two ha hb I p' fun v u s2 vx vy H2 J2 r2 S2 x y I2 rx ry w2 k1 k2 q => ?_
  exact thn (cmp_ok hK hu o I2 w2 k1 k2 rx ry q) fun cv s3 ⟨z, H3, I3, r3, b, e, q3⟩ => by
    subst e
    cases r3
    exact wpAny_truthy_bool ⟨H3, I3, q3⟩
theorem tst_and {rest : List Expr} {fa fb : Enm → Store → Res Bool} (ha : PT X a (TB F W fa)) (hb : PW X (.BoolOp .And (b :: rest) pos) (TB F W fb)) :
    PW X (.BoolOp .And (a :: b :: rest) pos) (TB F W fun en S => (fa en S).bind fun c S1 => if c = true then fb en S1 else .ok false S1) := by
  refine ⟨fun wh pins s st H Q I p => PyProof.Rows.isTrue_and (thn (ha.run pins s st H _ I (TB.bind (g := fun en c S1 => if c = true then fb en S1 else .ok false S1) p)) fun c s1 ⟨H1, I1, en, J1, r1, S1, e1, w1, p1⟩ => ?_)⟩
  cases c with
  | true => exact hb.run wh pins s1 st H1 Q I1 ⟨en, S1, J1, r1, w1, e1, p1⟩
  | false => exact ⟨H1, I1, p1 H1 J1 r1 w1 Le.refl⟩
theorem tst_or {rest : List Expr} {fa fb : Enm → Store → Res Bool} (ha : PT X a (TB F W fa)) (hb : PW X (.BoolOp .Or (b :: rest) pos) (TB F W fb)) :
    PW X (.BoolOp .Or (a :: b :: rest) pos) (TB F W fun en S => (fa en S).bind fun c S1 => if c = true then .ok true S1 else fb en S1) := by
  refine ⟨fun wh pins s st H Q I p => PyProof.Rows.isTrue_or (thn (ha.run pins s st H _ I (TB.bind (g := fun en c S1 => if c = true then .ok true S1 else fb en S1) p)) fun c s1 ⟨H1, I1, en, J1, r1, S1, e1, w1, p1⟩ => ?_)⟩
  cases c with
  | false => exact hb.run wh pins s1 st H1 Q I1 ⟨en, S1, J1, r1, w1, e1, p1⟩
  | true => exact ⟨H1, I1, p1 H1 J1 r1 w1 Le.refl⟩
theorem tst_not {fa : Enm → Store → Res Bool} (ha : PT X a (TB F W fa)) : PT X (.UnaryOp .Not a pos) (TB F W fun en S => (fa en S).bind fun c S1 => .ok (!c) S1) :=
  ⟨fun pins s st H Q I p => PyProof.Rows.isTrue_not (ha.run pins s st H (fun c H1 => Q (!c) H1) I (by
    obtain ⟨en, S, J, r, w, e, p⟩ := TB.bind (g := fun en c S1 => .ok (!c) S1) p
    refine ⟨en, S, J, r, w, e, ?_⟩
    skip
    cases h : fa en S with
    | ok c S1 => rw [h] at p; exact fun H' J' r' a l => let ⟨en', J2, r2, S2, e2, w2, p2⟩ := p H' J' r' a l; p2 H' J2 r2 w2 Le.refl
    | exc c fs S1 => rw [h] at p; exact p
    | stk => rw [h] at p; exact p))⟩
def bl1 (x : Val) : Option Bool := match x with
  | .bl b => some b
  | _ => none
/-- a and b, as a value -/
theorem sd_and {rest : List Expr} {fa fb : Enm → Store → Res Val} (ha : PE X a (TT F W fa)) (hb : PE X (.BoolOp .And (b :: rest) pos) (TT F W fb)) :
    PE X (.BoolOp .And (a :: b :: rest) pos) (TT F W fun en S => (fa en S).bind fun x S1 => match bl1 x with | some true => fb en S1 | some false => .ok (.bl false) S1 | none => .stk) := by
  refine ⟨fun pins s st H Q I p => PyProof.Rows.BoolOp_and (thn (ha.run pins s st H _ I (TT.bind (g := fun en x S1 => match bl1 x with | some true => fb en S1 | some false => .ok (.bl false) S1 | none => .stk) p)) fun v s1 ⟨vx, H1, I1, r1, en, J1, ro1, S1, x, e1, w1, k1, p1⟩ => ?_)⟩
  cases k1 with
  | bl c =>
    cases r1
    refine wpAny_truthy_bool ?_
    cases c with
    | true => exact hb.run pins s1 st H1 Q I1 ⟨en, S1, J1, ro1, w1, e1, p1⟩
    | false => exact ⟨.bl false, H1, I1, rfl, p1.stay w1 (.bl _)⟩
  | _ => exact p1.elim
theorem sd_or {rest : List Expr} {fa fb : Enm → Store → Res Val} (ha : PE X a (TT F W fa)) (hb : PE X (.BoolOp .Or (b :: rest) pos) (TT F W fb)) :
    PE X (.BoolOp .Or (a :: b :: rest) pos) (TT F W fun en S => (fa en S).bind fun x S1 => match bl1 x with | some true => .ok (.bl true) S1 | some false => fb en S1 | none => .stk) := by
  refine ⟨fun pins s st H Q I p => PyProof.Rows.BoolOp_or (thn (ha.run pins s st H _ I (TT.bind (g := fun en x S1 => match bl1 x with | some true => .ok (.bl true) S1 | some false => fb en S1 | none => .stk) p)) fun v s1 ⟨vx, H1, I1, r1, en, J1, ro1, S1, x, e1, w1, k1, p1⟩ => ?_)⟩
  cases k1 with
  | bl c =>
    cases r1
    refine wpAny_truthy_bool ?_
    cases c with
    | false => exact hb.run pins s1 st H1 Q I1 ⟨en, S1, J1, ro1, w1, e1, p1⟩
    | true => exact ⟨.bl true, H1, I1, rfl, p1.stay w1 (.bl _)⟩
  | _ => exact p1.elim
theorem sd_not {fa : Enm → Store → Res Val} (ha : PE X a (TT F W fa)) : PE X (.UnaryOp .Not a pos) (TT F W fun en S => (fa en S).bind fun x S1 => match bl1 x with | some c => .ok (.bl (!c)) S1 | none => .stk) := by
  refine ⟨fun pins s st H Q I p => PyProof.Rows.UnaryOp_ (thn (ha.run pins s st H _ I (TT.bind (g := fun en x S1 => match bl1 x with | some c => .ok (.bl (!c)) S1 | none => .stk) p)) fun v s1 ⟨vx, H1, I1, r1, en, J1, ro1, S1, x, e1, w1, k1, p1⟩ => ?_)⟩
  cases k1 with
  | bl c =>
    cases r1
    exact PyProof.Rows.not_of (wpAny_truthy_bool ⟨.bl (!c), H1, I1, rfl, p1.stay w1 (.bl _)⟩)
  | _ => exact p1.elim
theorem sd_ife {fc : Enm → Store → Res Bool} {fa fb : Enm → Store → Res Val} (hc : PT X c (TB F W fc)) (ha : PE X a (TT F W fa)) (hb : PE X b (TT F W fb)) :
    PE X (.IfExp c a b pos) (TT F W fun en S => (fc en S).bind fun d S1 => if d = true then fa en S1 else fb en S1) := by
  refine ⟨fun pins s st H Q I p => wpAny_IfExp (thn (hc.run pins s st H _ I (TT.ofB (g := fun en d S1 => if d = true then fa en S1 else fb en S1) p)) fun d s1 ⟨H1, I1, en, J1, r1, S1, e1, w1, p1⟩ => ?_)⟩
  cases d with
  | true => exact ha.run pins s1 st H1 Q I1 ⟨en, S1, J1, r1, w1, e1, p1⟩
  | false => exact hb.run pins s1 st H1 Q I1 ⟨en, S1, J1, r1, w1, e1, p1⟩
end
end GW
/-! Core 4: the core text and what it computes. -/
namespace GW
open PySem L2

inductive Tg where
  | one (i : Nat) | tup (is : List Nat)
inductive Blt where
  | len | int | abs | max2 | min2 | str | repr | tuple | list | listR | sum | all | any
inductive Mth where
  | append | pop | popAt | extend | reverse | clear | upper | join | sindex | split | partition
mutual
inductive E where
  | cst (v : Val) | var (i : Nat) | glo (x : Str) (v : Val)
  | bin (o : Bop) (a b : E) | neg (a : E) | not (a : E) | and (a b : E) | or (a b : E)
  | cmp (o : Cop) (a b : E) | chn (o p : Cop) (a b c : E) | ife (c a b : E)
  | isi (a : E) (ts : List String)
  | idx (a i : E) | slc (a : E) (lo hi : Po) | slcR (a : E) (lo hi : Po)
  | tpd (es : Es) | lsd (b : Bool) (es : Es) | dcd (ks vs : Es)
  | blt (f : Blt) (es : Es) | call (f : Nat) (es : Es) | callv (i : Nat) (es : Es)
  | mth (m : Mth) (o : E) (es : Es)
  | lc (b : Bool) (t : Tg) (it : It) (cs : Es) (e : E)
  | efl (p c j : Nat)
inductive Es where
  | nil | cons (e : E) (es : Es)
inductive Po where
  | no | yes (e : E)
inductive It where
  | val (e : E) | rng1 (e : E) | rng2 (a b : E) | enm (e : E) | zip (a b : E) | rev (e : E)
end
mutual
inductive C where
  | set (i : Nat) (e : E) | tset (is : List Nat) (e : E) | par (i j : Nat) (a b : E) | sset (a i e : E)
  | exp (e : E) | ret (e : E) | retN | ife (c : E) (a b : Cs) | whl (c : E) (b : Cs) | forr (t : Tg) (it : It) (b : Cs)
  | rai (c : Nat) (es : Es) | tri (b : Cs) (hs : Hs) | pas
inductive Cs where
  | nil | cons (c : C) (cs : Cs)
inductive Hs where
  | nil | cons (c : Nat) (i : Option Nat) (b : Cs) (hs : Hs)
end

/-- what the text's own functions do (their depth is told elsewhere), how many turns a while may take, the fields of the exception in hand, which class stands under which -/
structure Om where
  call : Nat → List Val → Store → Res Val
  fu : Nat
  nf : Nat
  nc : Nat
  sub : Nat → Nat → Bool

def oV (o : Option Val) (S : Store) : Res Val := match o with
  | some v => .ok v S
  | none => .stk
def getS (en : Enm) (i : Nat) (S : Store) : Res Val := match en[i]? with
  | some (some v) => .ok v S
  | _ => .stk
def negV (x : Val) (S : Store) : Res Val := match x with
  | .int i => .ok (.int (-i)) S
  | _ => .stk
def tyN (S : Store) (x : Val) : Option String := match x with
  | .non => some "NoneType"
  | .bl _ => some "bool"
  | .int _ => some "int"
  | .str _ => some "str"
  | .tup _ => some "tuple"
  | .lst _ => some "list"
  | .ref l => (match S[l]? with
    | some (.lst _) => some "list"
    | some (.dct _ _) => some "dict"
    | none => none)
  | _ => none
def isiE (S : Store) (x : Val) (ts : List String) : Option Bool := match tyN S x with
  | some t => (match ts with
    | [u] => kitB t u
    | [u, u'] => (match kitB t u with
      | some true => some true
      | some false => kitB t u'
      | none => none)
    | _ => none)
  | none => none
/-- the place that i names of n -/
def ixV (xs : List Val) (i : Int) : Option Val := L2.atI xs i
def idxV (x i : Val) (S : Store) : Res Val := match i with
  | .int i => (match x with
    | .tup xs => oV (ixV xs i) S
    | .lst xs => oV (ixV xs i) S
    | .scr xs => oV (ixV xs i) S
    | .str z => if z.length ≤ sizeLine then (match L2.atI z.cps.toList i with
      | some c => .ok (.str ⟨#[c]⟩) S
      | none => .stk) else .stk
    | .ref l => (match S[l]? with
      | some (.lst xs) => oV (ixV xs i) S
      | _ => .stk)
    | _ => .stk)
  | _ => .stk
def cutL (xs : List Val) (lo hi : Option Int) : List Val := (xs.drop (HT.sIx xs.length 0 lo)).take (HT.sIx xs.length xs.length hi - HT.sIx xs.length 0 lo)
def slcV (x : Val) (lo hi : Option Int) (S : Store) : Res Val := match x with
  | .tup xs => .ok (.tup (cutL xs lo hi)) S
  | .lst xs => .ok (.lst (cutL xs lo hi)) S
  | .str z => if z.length ≤ sizeLine then .ok (.str (cutS z lo hi)) S else .stk
  | .ref l => (match S[l]? with
    | some (.lst xs) => .ok (.lst (cutL xs lo hi)) S
    | _ => .stk)
  | _ => .stk
/-- a cut of a list that is written later -/
def slcRV (x : Val) (lo hi : Option Int) (S : Store) : Res Val := match x with
  | .lst xs => newR (cutL xs lo hi) S
  | .ref l => (match S[l]? with
    | some (.lst xs) => newR (cutL xs lo hi) S
    | _ => .stk)
  | x => slcV x lo hi S
/-- a list, as it is told: a frozen one, or one of the store -/
def mkL (b : Bool) (xs : List Val) (S : Store) : Res Val := if xs.length ≤ sizeLine then (if b = true then .ok (.ref S.length) (S ++ [.lst xs]) else .ok (.lst xs) S) else .stk
def mkT (xs : List Val) (S : Store) : Res Val := if xs.length ≤ sizeLine then .ok (.tup xs) S else .stk
def keyV (x : Val) : Option Key := match x with
  | .int i => some (.inl i)
  | .str z => some (.inr z)
  | _ => none
def mkD (ks vs : List Val) (S : Store) : Res Val := match ks, vs with
  | [], [] => .ok (.ref S.length) (S ++ [.dct [] []])
  | [k], [v] => (match keyV k with
    | some k => .ok (.ref S.length) (S ++ [.dct [k] [v]])
    | none => .stk)
  | _, _ => .stk
def ints? : List Val → Option (List Int)
  | [] => some []
  | .int i :: r => (ints? r).map (i :: ·)
  | _ => none
def bls? : List Val → Option (List Bool)
  | [] => some []
  | .bl i :: r => (bls? r).map (i :: ·)
  | _ => none
def strs? : List Val → Option (List Str)
  | [] => some []
  | .str i :: r => (strs? r).map (i :: ·)
  | _ => none
def lenV (x : Val) (S : Store) : Res Val := match x with
  | .tup xs => .ok (.int xs.length) S
  | .lst xs => .ok (.int xs.length) S
  | .scr xs => .ok (.int xs.length) S
  | .str z => if z.length ≤ sizeLine then .ok (.int z.length) S else .stk
  | .ref l => (match S[l]? with
    | some (.lst xs) => .ok (.int xs.length) S
    | _ => .stk)
  | _ => .stk
def intV (x : Val) (S : Store) : Res Val := match x with
  | .int i => .ok (.int i) S
  | .bl b => .ok (.int (if b = true then 1 else 0)) S
  | .str z => (match PySem.intText? z with
    | some n => if z.length ≤ 640 then .ok (.int n) S else .stk
    | none => .stk)
  | _ => .stk
def strV (x : Val) (S : Store) : Res Val := match x with
  | .int i => if i.natAbs.log2 < 1920 then .ok (.str (Str.ofString (toString i))) S else .stk
  | _ => .stk
def reprV (x : Val) (S : Store) : Res Val := match toD S 12 x with
  | some d => if (d.showable = true ∨ big d = true) ∧ d.depth ≤ 64 ∧ d.shown.length ≤ sizeLine then .ok (.str d.shown) S else .stk
  | none => .stk
def tupleV (x : Val) (S : Store) : Res Val := match x with
  | .tup xs => .ok (.tup xs) S
  | .lst xs => .ok (.tup xs) S
  | .ref l => (match S[l]? with
    | some (.lst xs) => .ok (.tup xs) S
    | _ => .stk)
  | _ => .stk
def listV (b : Bool) (x : Val) (S : Store) : Res Val := match x with
  | .tup xs => mkL b xs S
  | .lst xs => mkL b xs S
  | .ref l => (match S[l]? with
    | some (.lst xs) => mkL b xs S
    | _ => .stk)
  | _ => .stk
def sumV (x : Val) (S : Store) : Res Val := match seqL S x with
  | some xs => (match ints? xs with
    | some is => .ok (.int is.sum) S
    | none => .stk)
  | none => .stk
def allV (x : Val) (S : Store) : Res Val := match seqL S x with
  | some xs => (match bls? xs with
    | some bs => .ok (.bl (bs.all id)) S
    | none => .stk)
  | none => .stk
def anyV (x : Val) (S : Store) : Res Val := match seqL S x with
  | some xs => (match bls? xs with
    | some bs => .ok (.bl (bs.any id)) S
    | none => .stk)
  | none => .stk
def bltV (f : Blt) (xs : List Val) (S : Store) : Res Val := match f, xs with
  | .len, [x] => lenV x S
  | .int, [x] => intV x S
  | .abs, [.int i] => .ok (.int (if i < 0 then -i else i)) S
  | .max2, [.int i, .int j] => .ok (.int (if j > i then j else i)) S
  | .min2, [.int i, .int j] => .ok (.int (if j < i then j else i)) S
  | .str, [x] => strV x S
  | .repr, [x] => reprV x S
  | .tuple, [x] => tupleV x S
  | .list, [x] => listV false x S
  | .listR, [x] => listV true x S
  | .sum, [x] => sumV x S
  | .all, [x] => allV x S
  | .any, [x] => anyV x S
  | _, _ => .stk
def wrL (l : Nat) (xs : List Val) (v : Val) (S : Store) : Res Val := .ok v (S.set l (.lst xs))
def lstAt (S : Store) (o : Val) : Option (Nat × List Val) := match o with
  | .ref l => (match S[l]? with
    | some (.lst xs) => some (l, xs)
    | _ => none)
  | _ => none
def strAt (o : Val) : Option Str := match o with
  | .str z => some z
  | _ => none
def mthL (m : Mth) (l : Nat) (zs : List Val) (xs : List Val) (S : Store) : Res Val := match m, xs with
  | .append, [y] => if zs.length < sizeLine then wrL l (zs ++ [y]) .non S else .stk
  | .pop, [] => (match zs[zs.length - 1]? with
    | some y => wrL l zs.dropLast y S
    | none => .stk)
  | .popAt, [.int i] => (match PySem.seqIndex? i zs.length with
    | some k => (match zs[k]? with
      | some y => if -(2 ^ 63) ≤ i ∧ i < 2 ^ 63 then wrL l (zs.eraseIdx k) y S else .stk
      | none => .stk)
    | none => .stk)
  | .extend, [y] => (match seqL S y with
    | some ys => if zs.length + ys.length ≤ sizeLine then wrL l (zs ++ ys) .non S else .stk
    | none => .stk)
  | .reverse, [] => wrL l zs.reverse .non S
  | .clear, [] => wrL l [] .non S
  | _, _ => .stk
def mthS (m : Mth) (z : Str) (xs : List Val) (S : Store) : Res Val := match m, xs with
  | .upper, [] => if z.length ≤ 5592405 then .ok (.str (Txt.upper z)) S else .stk
  | .join, [y] => (match seqL S y with
    | some ys => (match strs? ys with
      | some ts => if (ts.map Str.length).sum + ts.length * z.length ≤ 16777216 then .ok (.str (Txt.join z ts)) S else .stk
      | none => .stk)
    | none => .stk)
  | .sindex, [.str b] => (match Builtin.Str.occurrences z b 0 z.length 1 with
    | i :: _ => .ok (.int (i : Nat)) S
    | [] => .stk)
  | .split, [.str b] => if (b.length == 0) = false ∧ z.length + 2 ≤ sizeLine then .ok (.lst ((Txt.split z b).map Val.str)) S else .stk
  | .partition, [.str b] => if (b.length == 0) = false ∧ z.length ≤ sizeLine then .ok (.tup [.str (Txt.partition z b).1, .str (Txt.partition z b).2.1, .str (Txt.partition z b).2.2]) S else .stk
  | _, _ => .stk
def Mth.isL (m : Mth) : Bool := match m with
  | .append | .pop | .popAt | .extend | .reverse | .clear => true
  | _ => false
def tyOk (m : Mth) (o : Val) (S : Store) : Bool := if m.isL = true then (lstAt S o).isSome else (strAt o).isSome
def mthV (m : Mth) (o : Val) (xs : List Val) (S : Store) : Res Val := if m.isL = true then (match lstAt S o with
  | some (l, zs) => mthL m l zs xs S
  | none => .stk) else (match strAt o with
  | some z => mthS m z xs S
  | none => .stk)
def putT (t : Tg) (v : Val) (en : Enm) : Option Enm := match t with
  | .one i => some (en.set i (some v))
  | .tup is => (match v with
    | .tup xs => if xs.length = is.length then some ((is.zip xs).foldl (fun e p => e.set p.1 (some p.2)) en) else none
    | _ => none)
/-- the list that a loop walks stands as it stood -/
def live (S : Store) (cs : List Val) (xs : List (List Val)) : Prop := ∀ p ∈ cs.zip xs, match p.1 with
  | .ref l => S[l]? = some (.lst p.2)
  | _ => True
/-- what a list holds, whichever way it is told; what a tuple holds -/
def lstI (S : Store) (v : Val) : Option (List Val) := match v with
  | .lst xs => some xs
  | .scr xs => some xs
  | .ref l => (match S[l]? with
    | some (.lst xs) => some xs
    | _ => none)
  | _ => none
def tupI (v : Val) : Option (List Val) := match v with
  | .tup xs => some xs
  | _ => none
def strI (v : Val) : Option (List Val) := match v with
  | .str z => some (z.cps.toList.map fun c => .str ⟨#[c]⟩)
  | _ => none
def items (S : Store) (v : Val) : Option (List Val) := match lstI S v with
  | some xs => some xs
  | none => (match tupI v with
    | some xs => some xs
    | none => strI v)
/-- what a loop walks: the lists that must stand still (with their items), the items that come -/
structure Wk where
  cs : List Val
  xs : List (List Val)
  its : List Val
def zipW (v u : Val) (S : Store) : Res Wk := match lstI S v, lstI S u with
  | some xs, some ys => .ok ⟨[v, u], [xs, ys], (xs.zip ys).map fun p => .tup [p.1, p.2]⟩ S
  | _, _ => (match tupI v, tupI u with
    | some xs, some ys => .ok ⟨[], [], (xs.zip ys).map fun p => .tup [p.1, p.2]⟩ S
    | _, _ => .stk)
def revW (v : Val) (S : Store) : Res Wk := match lstI S v with
  | some xs => .ok ⟨[v], [xs], xs.reverse⟩ S
  | none => (match tupI v with
    | some xs => .ok ⟨[], [], xs.reverse⟩ S
    | none => .stk)
def rngL (lo hi : Int) : List Val := (List.range (hi - lo).toNat).map fun (k : Nat) => .int (lo + k)
def inR (i : Int) : Bool := decide (-(2 ^ 62) ≤ i) && decide (i < 2 ^ 62)
def rng1W (v : Val) (S : Store) : Res Wk := match v with
  | .int j => if inR j = true then .ok ⟨[], [], rngL 0 j⟩ S else .stk
  | _ => .stk
def rng2W (v u : Val) (S : Store) : Res Wk := match v, u with
  | .int i, .int j => if inR i = true ∧ inR j = true then .ok ⟨[], [], rngL i j⟩ S else .stk
  | _, _ => .stk
/-- an exception must not come out of here -/
def Res.noX {α : Type} (r : Res α) : Res α := match r with
  | .ok a S => .ok a S
  | _ => .stk
open Classical in
noncomputable def lcF (cs : List Val) (xs : List (List Val)) (t : Tg) (test : Enm → Store → Res Bool) (elt : Enm → Store → Res Val) (en : Enm) : List Val → List Val → Store → Res (List Val)
  | [], acc, S => if live S cs xs then .ok acc S else .stk
  | v :: r, acc, S => if live S cs xs then (match putT t v en with
    | some en' => (test en' S).noX.bind fun b S1 => if b = true then (elt en' S1).noX.bind fun y S2 => if acc.length < sizeLine then lcF cs xs t test elt en r (acc ++ [y]) S2 else .stk else lcF cs xs t test elt en r acc S1
    | none => .stk) else .stk
mutual
noncomputable def evE (O : Om) : E → Enm → Store → Res Val
  | .cst v, _, S => .ok v S
  | .var i, en, S => getS en i S
  | .glo _ v, _, S => .ok v S
  | .bin o a b, en, S => (evE O a en S).bind fun x S1 => (evE O b en S1).bind fun y S2 => bopV o x y S2
  | .neg a, en, S => (evE O a en S).bind negV
  | .not a, en, S => (evE O a en S).bind fun x S1 => (truR x S1).bind fun c S2 => .ok (.bl (!c)) S2
  | .and a b, en, S => (evE O a en S).bind fun x S1 => (truR x S1).bind fun c S2 => if c = true then evE O b en S2 else .ok x S2
  | .or a b, en, S => (evE O a en S).bind fun x S1 => (truR x S1).bind fun c S2 => if c = true then .ok x S2 else evE O b en S2
  | .cmp o a b, en, S => (evE O a en S).bind fun x S1 => (evE O b en S1).bind fun y S2 => optB S2 (cmpE o x y S2)
  | .chn o p a b c, en, S => (evE O a en S).bind fun x S1 => (evE O b en S1).bind fun y S2 => match cmpE o x y S2 with
    | some true => (evE O c en S2).bind fun z S3 => optB S3 (cmpE p y z S3)
    | some false => .ok (.bl false) S2
    | none => .stk
  | .ife c a b, en, S => (evE O c en S).bind fun x S1 => (truR x S1).bind fun d S2 => if d = true then evE O a en S2 else evE O b en S2
  | .isi a ts, en, S => (evE O a en S).bind fun x S1 => optB S1 (isiE S1 x ts)
  | .idx a i, en, S => (evE O a en S).bind fun x S1 => (evE O i en S1).bind fun y S2 => idxV x y S2
  | .slc a lo hi, en, S => (evE O a en S).bind fun x S1 => (evP O lo en S1).bind fun l S2 => (evP O hi en S2).bind fun h S3 => slcV x l h S3
  | .slcR a lo hi, en, S => (evE O a en S).bind fun x S1 => (evP O lo en S1).bind fun l S2 => (evP O hi en S2).bind fun h S3 => slcRV x l h S3
  | .tpd es, en, S => (evs O es en S).bind fun xs S1 => mkT xs S1
  | .lsd b es, en, S => (evs O es en S).bind fun xs S1 => mkL b xs S1
  | .dcd ks vs, en, S => (evs O ks en S).bind fun ks S1 => (evs O vs en S1).bind fun vs S2 => mkD ks vs S2
  | .blt f es, en, S => (evs O es en S).bind fun xs S1 => bltV f xs S1
  | .call f es, en, S => (evs O es en S).bind fun xs S1 => O.call f xs S1
  | .callv i es, en, S => match en[i]? with
    | some (some (.fn f)) => if f < O.nf then (evs O es en S).bind fun xs S1 => O.call f xs S1 else .stk
    | _ => .stk
  | .mth m o es, en, S => (evE O o en S).bind fun x S1 => if tyOk m x S1 = true then (evs O es en S1).bind fun xs S2 => mthV m x xs S2 else .stk
  | .lc b t it cs e, en, S => (evI O it en S).bind fun wk S1 => (lcF wk.cs wk.xs t (fun en' S' => evC O cs en' S') (fun en' S' => evE O e en' S') en wk.its [] S1).bind fun ys S2 => mkL b ys S2
  | .efl p c j, en, S => match en[p]? with
    | some (some (.exc c' fs)) => if c' = c then oV fs[j]? S else .stk
    | _ => .stk
noncomputable def evs (O : Om) : Es → Enm → Store → Res (List Val)
  | .nil, _, S => .ok [] S
  | .cons e es, en, S => (evE O e en S).bind fun x S1 => (evs O es en S1).bind fun xs S2 => .ok (x :: xs) S2
noncomputable def evP (O : Om) : Po → Enm → Store → Res (Option Int)
  | .no, _, S => .ok none S
  | .yes e, en, S => (evE O e en S).bind fun x S1 => match x with
    | .int i => .ok (some i) S1
    | _ => .stk
/-- the tests of a comprehension -/
noncomputable def evC (O : Om) : Es → Enm → Store → Res Bool
  | .nil, _, S => .ok true S
  | .cons e es, en, S => (evE O e en S).bind fun x S1 => (truR x S1).bind fun c S2 => if c = true then evC O es en S2 else .ok false S2
noncomputable def evI (O : Om) : It → Enm → Store → Res Wk
  | .val e, en, S => (evE O e en S).bind fun v S1 => match items S1 v with
    | some xs => .ok ⟨[v], [xs], xs⟩ S1
    | none => .stk
  | .rng1 e, en, S => (evE O e en S).bind rng1W
  | .rng2 a b, en, S => (evE O a en S).bind fun v S1 => (evE O b en S1).bind fun u S2 => rng2W v u S2
  | .enm e, en, S => (evE O e en S).bind fun v S1 => match lstI S1 v with
    | some xs => .ok ⟨[v], [xs], xs.mapIdx fun (k : Nat) x => .tup [.int k, x]⟩ S1
    | none => .stk
  | .zip a b, en, S => (evE O a en S).bind fun v S1 => (evE O b en S1).bind fun u S2 => zipW v u S2
  | .rev e, en, S => (evE O e en S).bind fun v S1 => revW v S1
end
noncomputable def evB (O : Om) (e : E) (en : Enm) (S : Store) : Res Bool := (evE O e en S).bind truR

inductive Fl where
  | nx (en : Enm) (S : Store) | rt (v : Val) (S : Store) | ex (c : Nat) (fs : List Val) (en : Enm) (S : Store) | stk
def Fl.then (f : Fl) (g : Enm → Store → Fl) : Fl := match f with
  | .nx en S => g en S
  | .rt v S => .rt v S
  | .ex c fs en S => .ex c fs en S
  | .stk => .stk
@[simp] theorem Fl.then_nx (en : Enm) (S : Store) (g : Enm → Store → Fl) : (Fl.nx en S).then g = g en S := rfl
@[simp] theorem Fl.then_rt (v : Val) (S : Store) (g : Enm → Store → Fl) : (Fl.rt v S).then g = .rt v S := rfl
@[simp] theorem Fl.then_ex (c : Nat) (fs : List Val) (en : Enm) (S : Store) (g : Enm → Store → Fl) : (Fl.ex c fs en S).then g = .ex c fs en S := rfl
@[simp] theorem Fl.then_stk (g : Enm → Store → Fl) : Fl.stk.then g = .stk := rfl
/-- from an expression's answer on -/
def Res.to {α : Type} (r : Res α) (en : Enm) (g : α → Store → Fl) : Fl := match r with
  | .ok v S => g v S
  | .exc c fs S => .ex c fs en S
  | .stk => .stk
@[simp] theorem Res.to_ok {α : Type} (a : α) (S : Store) (en : Enm) (g : α → Store → Fl) : (Res.ok a S).to en g = g a S := rfl
@[simp] theorem Res.to_exc {α : Type} (c : Nat) (fs : List Val) (S : Store) (en : Enm) (g : α → Store → Fl) : (Res.exc c fs S : Res α).to en g = .ex c fs en S := rfl
@[simp] theorem Res.to_stk {α : Type} (en : Enm) (g : α → Store → Fl) : (Res.stk : Res α).to en g = .stk := rfl
/-- a suite lets no exception out -/
def Fl.noX (f : Fl) : Fl := match f with
  | .ex _ _ _ _ => .stk
  | f => f
/-- behind a suite that has the exception in hand -/
def Fl.out (f : Fl) (n i : Nat) : Fl := match f with
  | .nx en S => .nx ((en.take n).set i none) S
  | .rt v S => .rt v S
  | _ => .stk
def setSub (x i v : Val) (S : Store) : Option Store := match x, i with
  | .ref l, .int k => (match S[l]? with
    | some (.lst xs) => (L2.ixN xs.length k).map fun j => S.set l (.lst (xs.set j v))
    | _ => none)
  | _, _ => none
noncomputable def whlF (t : Enm → Store → Res Bool) (b : Enm → Store → Fl) : Nat → Enm → Store → Fl
  | 0, _, _ => .stk
  | n + 1, en, S => (t en S).to en fun c S1 => if c = true then (b en S1).then fun en' S' => whlF t b n en' S' else .nx en S1
open Classical in
noncomputable def forF (cs : List Val) (xs : List (List Val)) (t : Tg) (b : Enm → Store → Fl) : List Val → Enm → Store → Fl
  | [], en, S => if live S cs xs then .nx en S else .stk
  | v :: r, en, S => if live S cs xs then (match putT t v en with
    | some en' => (b en' S).then fun en2 S2 => forF cs xs t b r en2 S2
    | none => .stk) else .stk
mutual
noncomputable def exC (O : Om) : C → Enm → Store → Fl
  | .set i e, en, S => (evE O e en S).to en fun v S1 => .nx (en.set i (some v)) S1
  | .tset is e, en, S => (evE O e en S).to en fun v S1 => match putT (.tup is) v en with
    | some en' => .nx en' S1
    | none => .stk
  | .par i j a b, en, S => (evE O a en S).to en fun x S1 => (evE O b en S1).to en fun y S2 => .nx ((en.set i (some x)).set j (some y)) S2
  | .sset a i e, en, S => (evE O e en S).to en fun v S1 => (evE O a en S1).to en fun x S2 => (evE O i en S2).to en fun k S3 => match setSub x k v S3 with
    | some S4 => .nx en S4
    | none => .stk
  | .exp e, en, S => (evE O e en S).to en fun _ S1 => .nx en S1
  | .ret e, en, S => (evE O e en S).to en fun v S1 => .rt v S1
  | .retN, _, S => .rt .non S
  | .ife c a b, en, S => (evB O c en S).to en fun d S1 => if d = true then exS O a en S1 else exS O b en S1
  | .whl c b, en, S => whlF (fun en S => evB O c en S) (fun en S => exS O b en S) O.fu en S
  | .forr t it b, en, S => (evI O it en S).to en fun wk S1 => forF wk.cs wk.xs t (fun en S => exS O b en S) wk.its en S1
  | .rai c es, en, S => (evs O es en S).to en fun xs S1 => .ex c xs.reverse en S1
  | .tri b hs, en, S => match exS O b en S with
    | .ex c fs en' S' => if c < O.nc then exH O hs c fs en' S' else .stk
    | o => o
  | .pas, en, S => .nx en S
noncomputable def exS (O : Om) : Cs → Enm → Store → Fl
  | .nil, en, S => .nx en S
  | .cons c cs, en, S => (exC O c en S).then fun en' S' => exS O cs en' S'
/-- the clauses of a try -/
noncomputable def exH (O : Om) : Hs → Nat → List Val → Enm → Store → Fl
  | .nil, c, fs, en, S => .ex c fs en S
  | .cons k i b hs, c, fs, en, S => if O.sub c k = true then (match i with
    | some i => if c = k then (exS O b (en.set i none ++ [some (.exc c fs)]) S).out en.length i else .stk
    | none => (exS O b en S).noX) else exH O hs c fs en S
end
/-- a def: how many parameters, how many names, its body -/
structure Df where
  np : Nat
  nn : Nat
  body : Cs
def start0 (d : Df) (vs : List Val) : Enm := vs.map some ++ List.replicate (d.nn - vs.length) none
noncomputable def runD (O : Om) (d : Df) (vs : List Val) (S : Store) : Res Val := if vs.length = d.np then (match exS O d.body (start0 d vs) S with
  | .nx _ S' => .ok .non S'
  | .rt v S' => .ok v S'
  | .ex c fs _ S' => .exc c fs S'
  | .stk => .stk) else .stk
/-- the program: its defs, which class stands under which -/
structure Pg where
  defs : List Df
  nc : Nat
  sub : Nat → Nat → Bool
noncomputable def callN (P : Pg) (fu : Nat) : Nat → Nat → List Val → Store → Res Val
  | 0, _, _, _ => .stk
  | n + 1, f, vs, S => match P.defs[f]? with
    | some d => runD ⟨callN P fu n, fu, P.defs.length, P.nc, P.sub⟩ d vs S
    | none => .stk
noncomputable def om (P : Pg) (fu n : Nat) : Om := ⟨callN P fu n, fu, P.defs.length, P.nc, P.sub⟩
end GW
/-! Core 5: expressions. -/
namespace GW
open PySem L2

/-! ### the syntax's small looks -/
def okX (x : Expr) : Bool := match x with
  | .Starred .. => false
  | .Set .. => false
  | .Slice .. => false
  | _ => true
def okA (x : Expr) : Bool := match x with
  | .Call (.Name id _) [] [] _ => id != "super"
  | _ => true
def okSw (x : Expr) : Bool := match x with
  | .ListComp .. => false
  | .SetComp .. => false
  | .DictComp .. => false
  | _ => true
def okTst (x : Expr) : Bool := match x with
  | .UnaryOp .Not _ _ => false
  | .BoolOp .. => false
  | .IfExp .. => false
  | .Compare .. => false
  | _ => true
theorem okX_star {x : Expr} (h : okX x = true) (es : List Expr) (env : Env) : starEach (x :: es) env = (false, eval x env) :: starEach es env := by
  cases x <;> first | rfl | (cases h; done)
theorem okX_mark {x : Expr} (h : okX x = true) (op : CmpOp) : behindInMarks op x = false := by
  cases x <;> first | rfl | (cases h; done)
theorem okX_fold {x : Expr} (h : okX x = true) (env : Env) (v : Value) : foldedSetIterable x env v = pure v := by
  cases x <;> first | rfl | (cases h; done)
theorem okX_ix {x : Expr} (h : okX x = true) : PlainIx x := by
  intro o i
  cases x <;> first | rfl | (cases h; done)
theorem okX_asg {x : Expr} (h : okX x = true) (es : List Expr) (env : Env) : assignEach (x :: es) env = (false, assign x env) :: assignEach es env := by
  cases x <;> first | rfl | (cases h; done)
theorem okSw_no {x : Expr} (h : okSw x = true) (tg : Option Expr) (n : Nat) (env : Env) : swapsWith x tg n env = pure false := by
  cases x <;> first | rfl | (cases h; done)
theorem okTst_is {x : Expr} (h : okTst x = true) (env : Env) (whole : Sem Value) : isTrue x env whole = (do let v ← whole; standAt x.pos; holding [v] (truthy v)) := by
  cases x <;> first
    | rfl
    | (cases h; done)
    | (rename_i op a p; cases op <;> first | rfl | (cases h; done))
theorem okA_base {x : Expr} (h : okA x = true) (name : Str) (env : Env) : attributeBase x name env (eval x env) = eval x env := by
  cases x with
  | Call f as ks p =>
    cases f with
    | Name id p1 =>
      cases as with
      | nil =>
        cases ks with
        | nil =>
          have h' : (id != "super") = true := h
          simp only [attributeBase, h', Bool.true_or, if_true]
        | cons k ks => rfl
      | cons a as => rfl
    | _ => rfl
  | _ => rfl

section
variable {F : Fx} {X : Cx} {W : WS} {pins : List (Addr × Obj)} {s : Shared} {st : L2.St} {H J H1 J1 : Hp} {r r1 : List Addr} {S : Store}
/-! ### argument lists -/
def PoA (F : Fx) (W : WS) (st : L2.St) (H J : Hp) (r : List Addr) (x : Res (List Val)) (Q : List V → Hp → Prop) : Prop := match x with
  | .ok vs S' => ∀ H' J' r' ws, Wo F H' J' r' S' → Le H J r H' J' r' → Reps F J' r' vs ws → Q ws H'
  | .exc c fs S' => ∀ H' J' r' d ws, Wo F H' J' r' S' → Le H J r H' J' r' → J' d = some (.xd ((F.cf c).zip ws)) → Reps F J' r' fs ws → W.w (.ref (F.ca c)) (some d) st H'
  | .stk => False
def TAA (F : Fx) (W : WS) (f : Enm → Store → Res (List Val)) : L2.TA := fun st H Q => ∃ en S J r, Wo F H J r S ∧ EnW F W J r en st ∧ PoA F W st H J r (f en S) Q
theorem PoA.le {x : Res (List Val)} {Q : List V → Hp → Prop} (l : Le H J r H1 J1 r1) (p : PoA F W st H J r x Q) : PoA F W st H1 J1 r1 x Q := by
  cases x with
  | ok v S => exact fun H' J' r' w a b c => p H' J' r' w a (l.trans b) c
  | exc c fs S => exact fun H' J' r' d ws a b e f => p H' J' r' d ws a (l.trans b) e f
  | stk => exact p
theorem TAA.ofE {f : Enm → Store → Res Val} {g : Enm → Val → Store → Res (List Val)} {Q : List V → Hp → Prop} (p : TAA F W (fun en S => (f en S).bind (g en)) st H Q) :
    TT F W f st H fun v H1 => ∃ en J1 r1 S1 x, EnW F W J1 r1 en st ∧ Wo F H1 J1 r1 S1 ∧ Rep F J1 r1 x v ∧ PoA F W st H1 J1 r1 (g en x S1) Q := by
  obtain ⟨en, S, J, r, w, e, p⟩ := p
  refine ⟨en, S, J, r, w, e, ?_⟩
  dsimp only at p
  cases h : f en S with
  | ok v S1 =>
    rw [h] at p
    exact fun H' J' r' vw a b c => ⟨en, J', r', S1, v, e.le b, a, c, PoA.le b p⟩
  | exc c fs S1 => rw [h] at p; exact p
  | stk => rw [h] at p; exact p
/-- from an argument list on -/
theorem TT.ofA {f : Enm → Store → Res (List Val)} {g : Enm → List Val → Store → Res Val} {Q : VK} (p : TT F W (fun en S => (f en S).bind (g en)) st H Q) :
    TAA F W f st H fun vs H1 => ∃ en J1 r1 S1 xs, EnW F W J1 r1 en st ∧ Wo F H1 J1 r1 S1 ∧ Reps F J1 r1 xs vs ∧ PoE F W st H1 J1 r1 (g en xs S1) Q := by
  obtain ⟨en, S, J, r, w, e, p⟩ := p
  refine ⟨en, S, J, r, w, e, ?_⟩
  dsimp only at p
  cases h : f en S with
  | ok v S1 =>
    rw [h] at p
    exact fun H' J' r' vw a b c => ⟨en, J', r', S1, v, e.le b, a, c, PoE.le b p⟩
  | exc c fs S1 => rw [h] at p; exact p
  | stk => rw [h] at p; exact p
theorem TAA.bind {f : Enm → Store → Res (List Val)} {g : Enm → List Val → Store → Res (List Val)} {Q : List V → Hp → Prop} (p : TAA F W (fun en S => (f en S).bind (g en)) st H Q) :
    TAA F W f st H fun vs H1 => ∃ en J1 r1 S1 xs, EnW F W J1 r1 en st ∧ Wo F H1 J1 r1 S1 ∧ Reps F J1 r1 xs vs ∧ PoA F W st H1 J1 r1 (g en xs S1) Q := by
  obtain ⟨en, S, J, r, w, e, p⟩ := p
  refine ⟨en, S, J, r, w, e, ?_⟩
  dsimp only at p
  cases h : f en S with
  | ok v S1 =>
    rw [h] at p
    exact fun H' J' r' vw a b c => ⟨en, J', r', S1, v, e.le b, a, c, PoA.le b p⟩
  | exc c fs S1 => rw [h] at p; exact p
  | stk => rw [h] at p; exact p
variable {a b c : Expr} {es : List Expr} {pos : Pos}
theorem sa_nil : PA X [] (TAA F W fun _ S => .ok [] S) :=
  ⟨fun ps pins s st H Q I ⟨en, S, J, r, w, e, p⟩ => pa_nil.run ps pins s st H Q I (p H J r [] w Le.refl .nil)⟩
theorem sa_cons {fa : Enm → Store → Res Val} {fs : Enm → Store → Res (List Val)} (hx : okX a = true) (ha : PE X a (TT F W fa)) (hs : PA X es (TAA F W fs)) :
    PA X (a :: es) (TAA F W fun en S => (fa en S).bind fun x S1 => (fs en S1).bind fun xs S2 => .ok (x :: xs) S2) :=
  ⟨fun ps pins s st H Q I p => (pa_cons ha hs (okX_star hx es X.env)).run ps pins s st H Q I (by
    have p1 := TAA.ofE (g := fun en x S1 => (fs en S1).bind fun xs S2 => .ok (x :: xs) S2) p
    obtain ⟨en, S, J, r, w, e, p1⟩ := p1
    refine ⟨en, S, J, r, w, e, ?_⟩
    cases h : fa en S with
    | stk => rw [h] at p1; exact p1
    | exc c fs S1 => rw [h] at p1; exact p1
    | ok x S1 =>
      rw [h] at p1
      intro H' J' r' v a1 a2 a3
      obtain ⟨en2, J2, r2, S2, x2, e2, w2, k2, p2⟩ := p1 H' J' r' v a1 a2 a3
      obtain ⟨en3, S3, J3, r3, w3, e3, p3⟩ := TAA.bind (g := fun _ xs S2 => .ok (x2 :: xs) S2) (f := fs) (W := W) (F := F) (st := st) (H := H') (Q := Q) ⟨en2, S2, J2, r2, w2, e2, p2⟩
      refine ⟨en2, S2, J2, r2, w2, e2, ?_⟩
      cases h3 : fs en2 S2 with
      | stk => rw [h3] at p2; exact p2
      | exc c fs S1 => rw [h3] at p2; exact p2
      | ok xs S4 =>
        rw [h3] at p2
        exact fun H5 J5 r5 vs b1 b2 b3 => p2 H5 J5 r5 (v :: vs) b1 b2 (.cons (k2.le b2) b3))⟩
/-! ### atoms -/
theorem sd_int {i : Int} {j : Nat} : PE X (.Constant (.int i) j pos) (TT F W fun _ S => .ok (.int i) S) := ⟨fun pins s st H Q I ⟨en, S, J, r, w, e, p⟩ => pe_int.run pins s st H Q I (p.stay w (.int i))⟩
theorem sd_bl {i : Bool} {j : Nat} : PE X (.Constant (.bool i) j pos) (TT F W fun _ S => .ok (.bl i) S) := ⟨fun pins s st H Q I ⟨en, S, J, r, w, e, p⟩ => pe_bl.run pins s st H Q I (p.stay w (.bl i))⟩
theorem sd_non {j : Nat} : PE X (.Constant .none j pos) (TT F W fun _ S => .ok .non S) := ⟨fun pins s st H Q I ⟨en, S, J, r, w, e, p⟩ => pe_non.run pins s st H Q I (p.stay w .non)⟩
theorem sd_str {z : Str} {j : Nat} : PE X (.Constant (.str z) j pos) (TT F W fun _ S => .ok (.str z) S) := ⟨fun pins s st H Q I ⟨en, S, J, r, w, e, p⟩ => pe_str.run pins s st H Q I (p.stay w (.str z))⟩
theorem sd_var {i : Nat} {x : Str} (hN : X.N[i]? = some x) (hv : Vis X.env.scope x) (h1 : (x == ("__debug__" : Str)) = false) (h2 : (x == ("__classdict__" : Str)) = false) : PE X (.Name x pos) (TT F W fun en S => getS en i S) :=
  ⟨fun pins s st H Q I ⟨en, S, J, r, w, e, p⟩ => (pe_var hN hv h1 h2).run pins s st H Q I (by
    dsimp only [getS] at p
    split at p
    · rename_i v h
      obtain ⟨vx, g1, g2⟩ := e.en i v h
      have hl : i < st.length := by rw [I.len]; exact (List.getElem?_eq_some_iff.mp hN).1
      exact ⟨vx, by rw [WS.st, List.getElem?_append_left hl] at g1; exact g1, p.stay w g2⟩
    · exact p.elim)⟩
theorem sd_glo {x : Str} {v : Val} {vx : V} {u : Value} (hg : Gl X x) (hm : X.mg x = some u) (rv : RelV vx u) (k : ∀ J r, Rep F J r v vx) (hd : (x == ("__debug__" : Str)) = false) : PE X (.Name x pos) (TT F W fun _ S => .ok v S) :=
  ⟨fun pins s st H Q I ⟨en, S, J, r, w, e, p⟩ => (pe_glob hg hm rv hd).run pins s st H Q I (p.stay w (k _ _))⟩
theorem sd_neg {fa : Enm → Store → Res Val} (ha : PE X a (TT F W fa)) : PE X (.UnaryOp .USub a pos) (TT F W fun en S => (fa en S).bind negV) :=
  ⟨fun pins s st H Q I p => PyProof.Rows.UnaryOp_ (thn (ha.run pins s st H _ I (TT.bind (g := fun _ => negV) p)) fun v s1 ⟨vx, H1, I1, r1, en, J1, ro1, S1, x, e1, w1, k1, p1⟩ => by
    unfold negV at p1
    split at p1
    · cases k1
      exact un_neg pins s1 st H1 _ _ _ I1 r1 ⟨_, rfl, p1.stay w1 (.int _)⟩
    · exact p1.elim)⟩
/-! ### and, or, not, by truth -/
theorem truR_ok {x : Val} {Q : Bool → Hp → Prop} {b : Bool} {S1 : Store} (h : truR x S = .ok b S1) : truE S x = some b ∧ S1 = S := by
  unfold truR at h
  split at h
  · rename_i c hc; cases h; exact ⟨hc, rfl⟩
  · cases h
theorem truR_cases (x : Val) (S : Store) : (∃ b, truE S x = some b ∧ truR x S = .ok b S) ∨ truR x S = .stk := by
  unfold truR
  cases h : truE S x with
  | none => exact .inr rfl
  | some b => exact .inl ⟨b, rfl, rfl⟩
theorem sd_andT (hK : F.K = X.K) {rest : List Expr} {fa fb : Enm → Store → Res Val} (ha : PE X a (TT F W fa)) (hb : PE X (.BoolOp .And (b :: rest) pos) (TT F W fb)) :
    PE X (.BoolOp .And (a :: b :: rest) pos) (TT F W fun en S => (fa en S).bind fun x S1 => (truR x S1).bind fun c S2 => if c = true then fb en S2 else .ok x S2) :=
  ⟨fun pins s st H Q I p => (pe_andT ha hb).run pins s st H Q I (by
    obtain ⟨en, S, J, r, w, e, p1⟩ := TT.bind (g := fun en x S1 => (truR x S1).bind fun c S2 => if c = true then fb en S2 else .ok x S2) p
    refine ⟨en, S, J, r, w, e, ?_⟩
    cases h : fa en S with
    | stk => rw [h] at p1; exact p1
    | exc c fs S1 => rw [h] at p1; exact p1
    | ok x S1 =>
      rw [h] at p1
      intro H' J' r' v a1 a2 a3
      obtain ⟨en2, J2, r2, S2, x2, e2, w2, k2, p2⟩ := p1 H' J' r' v a1 a2 a3
      rcases truR_cases x2 S2 with ⟨b, t1, t2⟩ | t2
      · rw [t2] at p2
        simp only [Res.bind_ok] at p2
        refine ⟨b, tru_core hK w2 k2 t1, ?_⟩
        cases b with
        | true => exact ⟨en2, S2, J2, r2, w2, e2, p2⟩
        | false => exact p2.stay w2 k2
      · rw [t2] at p2; exact p2.elim)⟩
theorem sd_orT (hK : F.K = X.K) {rest : List Expr} {fa fb : Enm → Store → Res Val} (ha : PE X a (TT F W fa)) (hb : PE X (.BoolOp .Or (b :: rest) pos) (TT F W fb)) :
    PE X (.BoolOp .Or (a :: b :: rest) pos) (TT F W fun en S => (fa en S).bind fun x S1 => (truR x S1).bind fun c S2 => if c = true then .ok x S2 else fb en S2) :=
  ⟨fun pins s st H Q I p => (pe_orT ha hb).run pins s st H Q I (by
    obtain ⟨en, S, J, r, w, e, p1⟩ := TT.bind (g := fun en x S1 => (truR x S1).bind fun c S2 => if c = true then .ok x S2 else fb en S2) p
    refine ⟨en, S, J, r, w, e, ?_⟩
    cases h : fa en S with
    | stk => rw [h] at p1; exact p1
    | exc c fs S1 => rw [h] at p1; exact p1
    | ok x S1 =>
      rw [h] at p1
      intro H' J' r' v a1 a2 a3
      obtain ⟨en2, J2, r2, S2, x2, e2, w2, k2, p2⟩ := p1 H' J' r' v a1 a2 a3
      rcases truR_cases x2 S2 with ⟨b, t1, t2⟩ | t2
      · rw [t2] at p2
        simp only [Res.bind_ok] at p2
        refine ⟨b, tru_core hK w2 k2 t1, ?_⟩
        cases b with
        | true => exact p2.stay w2 k2
        | false => exact ⟨en2, S2, J2, r2, w2, e2, p2⟩
      · rw [t2] at p2; exact p2.elim)⟩
theorem sd_notT (hK : F.K = X.K) {fa : Enm → Store → Res Val} (ha : PE X a (TT F W fa)) :
    PE X (.UnaryOp .Not a pos) (TT F W fun en S => (fa en S).bind fun x S1 => (truR x S1).bind fun c S2 => .ok (.bl (!c)) S2) :=
  ⟨fun pins s st H Q I p => (pe_notT ha).run pins s st H Q I (by
    obtain ⟨en, S, J, r, w, e, p1⟩ := TT.bind (g := fun en x S1 => (truR x S1).bind fun c S2 => .ok (.bl (!c)) S2) p
    refine ⟨en, S, J, r, w, e, ?_⟩
    cases h : fa en S with
    | stk => rw [h] at p1; exact p1
    | exc c fs S1 => rw [h] at p1; exact p1
    | ok x S1 =>
      rw [h] at p1
      intro H' J' r' v a1 a2 a3
      obtain ⟨en2, J2, r2, S2, x2, e2, w2, k2, p2⟩ := p1 H' J' r' v a1 a2 a3
      rcases truR_cases x2 S2 with ⟨b, t1, t2⟩ | t2
      · rw [t2] at p2
        exact ⟨b, tru_core hK w2 k2 t1, p2.stay w2 (.bl _)⟩
      · rw [t2] at p2; exact p2.elim)⟩
/-! ### the same as tests -/
theorem TB.cong {f g : Enm → Store → Res Bool} (h : ∀ en S, f en S = g en S) : TB F W f = TB F W g := by
  have e : f = g := funext fun en => funext fun S => h en S
  rw [e]
theorem Res.bind_assoc {α β γ : Type} (x : Res α) (f : α → Store → Res β) (g : β → Store → Res γ) : (x.bind f).bind g = x.bind fun a S => (f a S).bind g := by
  cases x <;> rfl
theorem tb_and {fa fb : Enm → Store → Res Val} : TB F W (fun en S => ((fa en S).bind fun x S1 => (truR x S1).bind fun c S2 => if c = true then fb en S2 else .ok x S2).bind truR)
    = TB F W (fun en S => ((fa en S).bind truR).bind fun c S1 => if c = true then (fb en S1).bind truR else .ok false S1) := TB.cong fun en S => by
  rw [Res.bind_assoc, Res.bind_assoc]
  cases fa en S with
  | stk => rfl
  | exc c fs S1 => rfl
  | ok x S1 =>
    simp only [Res.bind_ok]
    rcases truR_cases x S1 with ⟨b, t1, t2⟩ | t2
    · rw [t2]
      cases b with
      | true => rfl
      | false => simp only [Res.bind_ok, Bool.false_eq_true, if_false]; exact t2
    · rw [t2]; rfl
theorem tb_or {fa fb : Enm → Store → Res Val} : TB F W (fun en S => ((fa en S).bind fun x S1 => (truR x S1).bind fun c S2 => if c = true then .ok x S2 else fb en S2).bind truR)
    = TB F W (fun en S => ((fa en S).bind truR).bind fun c S1 => if c = true then .ok true S1 else (fb en S1).bind truR) := TB.cong fun en S => by
  rw [Res.bind_assoc, Res.bind_assoc]
  cases fa en S with
  | stk => rfl
  | exc c fs S1 => rfl
  | ok x S1 =>
    simp only [Res.bind_ok]
    rcases truR_cases x S1 with ⟨b, t1, t2⟩ | t2
    · rw [t2]
      cases b with
      | false => rfl
      | true => simp only [Res.bind_ok, if_true]; exact t2
    · rw [t2]; rfl
theorem tb_not {fa : Enm → Store → Res Val} : TB F W (fun en S => ((fa en S).bind fun x S1 => (truR x S1).bind fun c S2 => .ok (.bl (!c)) S2).bind truR)
    = TB F W (fun en S => ((fa en S).bind truR).bind fun c S1 => .ok (!c) S1) := TB.cong fun en S => by
  rw [Res.bind_assoc, Res.bind_assoc]
  cases fa en S with
  | stk => rfl
  | exc c fs S1 => rfl
  | ok x S1 =>
    simp only [Res.bind_ok]
    rcases truR_cases x S1 with ⟨b, t1, t2⟩ | t2
    · rw [t2]; rfl
    · rw [t2]; rfl
theorem tb_cmp {o : Cop} {fa fb : Enm → Store → Res Val} : TB F W (fun en S => ((fa en S).bind fun x S1 => (fb en S1).bind fun y S2 => optB S2 (cmpE o x y S2)).bind truR)
    = TB F W (fun en S => (fa en S).bind fun x S1 => (fb en S1).bind fun y S2 => optT S2 (cmpE o x y S2)) := TB.cong fun en S => by
  rw [Res.bind_assoc]
  cases fa en S with
  | stk => rfl
  | exc c fs S1 => rfl
  | ok x S1 =>
    simp only [Res.bind_ok]
    rw [Res.bind_assoc]
    cases fb en S1 with
    | stk => rfl
    | exc c fs S1 => rfl
    | ok y S2 =>
      simp only [Res.bind_ok]
      cases cmpE o x y S2 <;> rfl
end
end GW
/-! Core 6: chains, isinstance, places, displays, built-ins. -/
namespace GW
open PySem L2

/-- what the head has laid: the modules; no bound of figures -/
def SmK (K : PySem.W.Frag) : Prop := (∃ o, K.lookup sysModules = some o) ∧ ∃ o es ep, K.lookup cStatics = some o ∧ o.data = .dict es ep ∧ StrKeys es ∧ nsFind es digitsKey = none
theorem SmK.free {K : PySem.W.Frag} (h : SmK K) {g : Heap} (k : K.In g) : Free g := by
  obtain ⟨o, es, ep, h1, h2, h3, h4⟩ := h.2
  exact ⟨fun x => nsFind es x, ⟨o, es, ep, k _ _ h1, h2, h3, fun _ => rfl⟩, h4⟩
/-- what the text's code runs in: the room, the written part, what of the built-in names stands -/
structure Sx (F : Fx) (X : Cx) : Prop where
  hK : F.K = X.K
  un : X.A.units + 100 < cLine
  gd : X.A.guards = some []
  sm : SmK X.K

section
variable {F : Fx} {X : Cx} {W : WS} {pins : List (Addr × Obj)} {s : Shared} {st : L2.St} {H J H1 J1 : Hp} {r r1 : List Addr} {S : Store}
variable {a b c : Expr} {es : List Expr} {pos : Pos}
theorem PoE.noW {W' : WS} {st' : L2.St} {x : Res Val} {Q : VK} (h : ∀ c fs S', x ≠ .exc c fs S') (p : PoE F W st H J r x Q) : PoE F W' st' H J r x Q := by
  cases x with
  | ok v S => exact p
  | exc c fs S => exact absurd rfl (h c fs S)
  | stk => exact p
theorem sd_chn (sx : Sx F X) (o p : Cop) {fa fb fc : Enm → Store → Res Val} (ha : PE X a (TT F W fa)) (hb : PE X b (TT F W fb)) (hc : PE X c (TT F W fc)) (hx : okX c = true) :
    PE X (.Compare a [o.op, p.op] [b, c] pos) (TT F W fun en S => (fa en S).bind fun x S1 => (fb en S1).bind fun y S2 => match cmpE o x y S2 with
      | some true => (fc en S2).bind fun z S3 => optB S3 (cmpE p y z S3)
      | some false => .ok (.bl false) S2
      | none => .stk) := by
  have hu : X.A.units + 64 < cLine := by have := sx.un; omega
  refine ⟨fun pins s st H Q I q => PyProof.Rows.Compare_chain (thn (ha.run pins s st H _ I (TT.bind (g := fun en x S1 => (fb en S1).bind fun y S2 => match cmpE o x y S2 with
      | some true => (fc en S2).bind fun z S3 => optB S3 (cmpE p y z S3)
      | some false => .ok (.bl false) S2
      | none => .stk) q)) fun v s1 ⟨vx, H1, I1, r1, en, J1, ro1, S1, x, e1, w1, k1, p1⟩ => PyProof.Rows.chain_link ?_) (okX_mark hx p.op)⟩
  refine thn (hb.run pins s1 st H1 _ I1 ⟨en, S1, J1, ro1, w1, e1, PoE.bind p1⟩) fun u s2 ⟨vy, H2, I2, r2, J2, ro2, S2, y, w2, l2, k2, p2⟩ => ?_
  dsimp only at p2
  have q1 : ∃ k, cmpE o x y S2 = some k := by
    cases h : cmpE o x y S2 with
    | none => rw [h] at p2; exact p2.elim
    | some k => exact ⟨k, rfl⟩
  obtain ⟨k, hk⟩ := q1
  refine thn (cmp_ok (W := W) sx.hK hu o I2 w2 (k1.le l2) k2 r1 r2 (Q := fun z H3 => z = .bl k ∧ ∃ J3 r3, Wo F H3 J3 r3 S2 ∧ Le H2 J2 ro2 H3 J3 r3) (by
    rw [hk]
    exact fun H' J' r' w' a1 a2 a3 => by cases a3; exact ⟨rfl, J', r', a1, a2⟩)) fun d s3 ⟨z, H3, I3, r3, e3, J3, ro3, w3, l3⟩ => ?_
  subst e3
  cases r3
  rw [hk] at p2
  refine wpAny_truthy_bool ?_
  cases k with
  | false => exact PyProof.Rows.ite_ff ⟨.bl false, H3, I3, rfl, (p2.le l3).stay w3 (.bl _)⟩
  | true =>
    refine PyProof.Rows.ite_tt (PyProof.Rows.chain_last (thn (hc.run pins s3 st H3 _ I3 ⟨en, S2, J3, ro3, w3, (e1.le l2).le l3, PoE.bind (p2.le l3)⟩) fun w' s4 ⟨vz, H4, I4, r4, J4, ro4, S4, z, w4, l4, k4, p4⟩ => ?_))
    exact cmp_ok sx.hK hu p I4 w4 ((k2.le l3).le l4) k4 r2 r4 p4
theorem sd_ifeT (hK : F.K = X.K) {fc fa fb : Enm → Store → Res Val} (hc : PT X c (TB F W fun en S => (fc en S).bind truR)) (ha : PE X a (TT F W fa)) (hb : PE X b (TT F W fb)) :
    PE X (.IfExp c a b pos) (TT F W fun en S => (fc en S).bind fun x S1 => (truR x S1).bind fun d S2 => if d = true then fa en S2 else fb en S2) := by
  have e : (fun en S => (fc en S).bind fun x S1 => (truR x S1).bind fun d S2 => if d = true then fa en S2 else fb en S2) = fun (en : Enm) (S : Store) => ((fc en S).bind truR).bind fun d S1 => if d = true then fa en S1 else fb en S1 :=
    funext fun en => funext fun S => (Res.bind_assoc _ _ _).symm
  rw [e]
  exact sd_ife hc ha hb
/-! ### isinstance -/
theorem ty_core (hK : F.K = X.K) (w : Wo F H J r S) {x : Val} {v : V} {t : String} (p : Rep F J r x v) (h : tyN S x = some t) : TyX X.K H v (.type t) := by
  cases p with
  | non => cases h; exact .base .non
  | bl b => cases h; exact .base (.bl b)
  | int i => cases h; exact .base (.int i)
  | str z => cases h; exact .base (.str z)
  | tup q _ =>
    cases h
    rcases sqT_H w q with (q | ⟨o, q⟩) | ⟨o, its, n, q, hc, _⟩
    · exact .base (.tup q)
    · exact .fTuple q
    · exact .kTuple (hK ▸ q) hc
  | lst q _ => cases h; exact .base (.lst (w.sub _ _ q))
  | ref q =>
    simp only [tyN] at h
    split at h
    · rename_i xs e0
      cases h
      obtain ⟨b', e2, vs, e3, t⟩ := w.obs _ _ e0
      rw [q] at e2
      cases e2
      exact .base (.lst e3)
    · rename_i ks xs e0
      cases h
      obtain ⟨b', e2, vs, e3, t⟩ := w.obs _ _ e0
      rw [q] at e2
      cases e2
      exact .base (.dK e3)
    · cases h
  | _ => cases h
theorem sd_isi1 (sx : Sx F X) {n : String} {x : Str} {p p1 : Pos} (hn : Str.ofString n = x) (hg : Gl X "isinstance") (hm : X.mg "isinstance" = none) (hg1 : Gl X x) (hm1 : X.mg x = none) (hb : bootBuiltins x = some (.type n)) (h0 : x ≠ "__name__") (hd : (x == ("__debug__" : Str)) = false)
    {fa : Enm → Store → Res Val} (hx : okX a = true) (ha : PE X a (TT F W fa)) :
    PE X (.Call (.Name "isinstance" p) [a, .Name x p1] [] pos) (TT F W fun en S => (fa en S).bind fun x S1 => optB S1 (isiE S1 x [n])) :=
  ⟨fun pins s st H Q I q => (pe_callB call_isi hg hm PyProof.Rows.boot_isinstance (pa_cons ha (pa_cons (pe_bltn (v := .ty n) hg1 hm1 hb rfl h0 hd) pa_nil) (okX_star hx _ _)) (by decide) (by decide) (okX_star hx _ _)).run pins s st H Q I (by
    obtain ⟨en, S, J, r, w, e, p1⟩ := TT.bind (g := fun _ x S1 => optB S1 (isiE S1 x [n])) q
    refine ⟨en, S, J, r, w, e, ?_⟩
    cases h : fa en S with
    | stk => rw [h] at p1; exact p1
    | exc c fs S1 => rw [h] at p1; exact p1
    | ok x S1 =>
      rw [h] at p1
      intro H' J' r' v a1 a2 a3
      obtain ⟨en2, J2, r2, S2, x2, e2, w2, k2, p2⟩ := p1 H' J' r' v a1 a2 a3
      obtain ⟨b, hb, p2⟩ := optB_some p2
      unfold isiE at hb
      split at hb
      · rename_i t ht
        exact ⟨v, .ty n, .type t, .type n, b, rfl, .ty n, ty_core sx.hK w2 k2 ht, kit_ty hb, p2.stay w2 (.bl _)⟩
      · cases hb)⟩
theorem sd_isi2 (sx : Sx F X) {n m : String} {x y : Str} {p p1 p2 p3 : Pos} {kk : Nat} (hg : Gl X "isinstance") (hm : X.mg "isinstance" = none) (hg1 : Gl X x) (hm1 : X.mg x = none) (hb : bootBuiltins x = some (.type n)) (h0 : x ≠ "__name__") (hd : (x == ("__debug__" : Str)) = false)
    (hg2 : Gl X y) (hm2 : X.mg y = none) (hb2 : bootBuiltins y = some (.type m)) (h02 : y ≠ "__name__") (hd2 : (y == ("__debug__" : Str)) = false)
    {fa : Enm → Store → Res Val} (hx : okX a = true) (ha : PE X a (TT F W fa)) :
    PE X (.Call (.Name "isinstance" p) [a, .Tuple [.Name x p1, .Name y p2] kk p3] [] pos) (TT F W fun en S => (fa en S).bind fun x S1 => optB S1 (isiE S1 x [n, m])) :=
  ⟨fun pins s st H Q I q => (pe_callB call_isiT hg hm PyProof.Rows.boot_isinstance (pa_cons ha (pa_cons (pe_tup (pa_cons (pe_bltn (v := .ty n) hg1 hm1 hb rfl h0 hd) (pa_cons (pe_bltn (v := .ty m) hg2 hm2 hb2 rfl h02 hd2) pa_nil))) pa_nil) (okX_star hx _ _)) (by decide) (by decide) (okX_star hx _ _)).run pins s st H Q I (by
    obtain ⟨en, S, J, r, w, e, p1⟩ := TT.bind (g := fun _ x S1 => optB S1 (isiE S1 x [n, m])) q
    refine ⟨en, S, J, r, w, e, ?_⟩
    cases h : fa en S with
    | stk => rw [h] at p1; exact p1
    | exc c fs S1 => rw [h] at p1; exact p1
    | ok x S1 =>
      rw [h] at p1
      intro H' J' r' v a1 a2 a3
      obtain ⟨en2, J2, r2, S2, x2, e2, w2, k2, p2⟩ := p1 H' J' r' v a1 a2 a3
      obtain ⟨b, hb, p2⟩ := optB_some p2
      refine ⟨by show 2 ≤ sizeLine; decide, fun p0 hp0 => ?_⟩
      obtain ⟨w3, l3⟩ := w2.frz (o := .tup [.ty n, .ty m]) hp0
      cases ht : tyN S2 x2 with
      | none => simp only [isiE, ht] at hb; cases hb
      | some t =>
        simp only [isiE, ht] at hb
        refine ⟨v, p0, [.ty n, .ty m], .type t, [.type n, .type m], b, rfl, upd_same, .cons (.ty n) (.cons (.ty m) .nil), ty_core sx.hK w3 (k2.le l3) (show tyN S2 x2 = some t from ht), ?_, (p2.le l3).stay w3 (.bl _)⟩
        cases hk : kitB t n with
        | none => rw [hk] at hb; cases hb
        | some b1 =>
          rw [hk] at hb
          cases b1 with
          | true => cases hb; exact kitAny_cons (kit_ty hk) (fun z => nomatch z) (fun _ => rfl)
          | false =>
            refine kitAny_cons (kit_ty hk) (fun _ => ?_) (fun z => nomatch z)
            refine kitAny_cons (kit_ty hb) (fun z => ?_) (fun z => z)
            rw [z]; exact kitAny_nil)⟩
/-! ### places -/
theorem atI_rep {F : Fx} {J : Hp} {r : List Addr} {xs : List Val} {vs : List V} {i : Int} {x : Val} (t : Reps F J r xs vs) (h : ixV xs i = some x) : ∃ v, L2.atI vs i = some v ∧ Rep F J r x v := by
  unfold ixV L2.atI at h
  unfold L2.atI
  rw [t.length]
  obtain ⟨j, h1, h2⟩ := Option.bind_eq_some_iff.mp h
  obtain ⟨v, g1, g2⟩ := t.get h2
  exact ⟨v, by rw [h1]; exact g1, g2⟩
theorem oV_some {o : Option Val} {Q : VK} (p : PoE F W st H J r (oV o S) Q) : ∃ v, o = some v ∧ PoE F W st H J r (.ok v S) Q := by
  cases o with
  | none => exact p.elim
  | some v => exact ⟨v, rfl, p⟩
theorem ixr (hK : F.K = X.K) : IxR X fun vx vy H Q => ∃ J r S x y st, Wo F H J r S ∧ Rep F J r x vx ∧ Rep F J r y vy ∧ PoE F W st H J r (idxV x y S) Q := by
  rintro value slice pins s st H vx vy v u Q I rx ry ⟨J, r, S, x, y, st', w, k1, k2, p⟩ hs
  unfold idxV at p
  split at p
  · cases k2
    have lists : ∀ {l : Addr} {xs : List Val} {vs : List V}, vx = .ref l → SqL X.K H l vs → Reps F J r xs vs → ∀ i, PoE F W st' H J r (oV (ixV xs i) S) Q → RelV (V.int i) u → wpAny (model X.prog X.w) X.A (PyProof.Rows.subscriptTail value slice v u) (EP X pins st Q) X.xe s := fun {l xs vs} e q t i p ry => by
      obtain ⟨z, hz, p⟩ := oV_some p
      obtain ⟨vz, g1, g2⟩ := atI_rep t hz
      exact ix_list value slice pins s st H vx _ v u Q I rx ry ⟨l, vs, _, vz, e, rfl, q, g1, p.stay w g2⟩ hs
    split at p
    · cases k1 with
      | tup q t =>
        obtain ⟨z, hz, p⟩ := oV_some p
        obtain ⟨vz, g1, g2⟩ := atI_rep t hz
        exact ix_tup value slice pins s st H _ _ v u Q I rx ry ⟨_, _, _, vz, rfl, rfl, hK ▸ sqT_H w q, g1, p.stay w g2⟩ hs
    · cases k1 with
      | lst q t => exact lists rfl (SqL.of (w.sub _ _ q)) t _ p ry
    · cases k1 with
      | scr q t => exact lists rfl (hK ▸ sqL_H w q) t _ p ry
    · cases k1
      split at p
      · rename_i hz
        split at p
        · rename_i c hc
          exact ix_str value slice pins s st H _ _ v u Q I rx ry ⟨_, _, c, rfl, rfl, hz, hc, p.stay w (.str _)⟩ hs
        · exact p.elim
      · exact p.elim
    · cases k1 with
      | ref q =>
        split at p
        · rename_i xs e0
          obtain ⟨b', e2, vs, e3, t⟩ := w.obs _ _ e0
          rw [q] at e2
          cases e2
          exact lists rfl (SqL.of e3) t _ p ry
        · exact p.elim
    · exact p.elim
  · exact p.elim
theorem sd_idx (hK : F.K = X.K) {fa fb : Enm → Store → Res Val} (ha : PE X a (TT F W fa)) (hb : PE X b (TT F W fb)) (hx : okX b = true) :
    PE X (.Subscript a b pos) (TT F W fun en S => (fa en S).bind fun x S1 => (fb en S1).bind fun y S2 => idxV x y S2) :=
  ⟨fun pins s st H Q I q => (pe_ix (ixr (W := W) hK) ha hb (okX_ix hx)).run pins s st H Q I (by
    obtain ⟨en, S, J, r, w, e, p1⟩ := q
    refine ⟨en, S, J, r, w, e, ?_⟩
    have p2 := PoE.bind p1
    cases h : fa en S with
    | stk => rw [h] at p2; exact p2
    | exc c fs S1 => rw [h] at p2; exact p2
    | ok x S1 =>
      rw [h] at p2
      intro H' J' r' v a1 a2 a3
      obtain ⟨J2, r2, S2, x2, w2, l2, k2, p3⟩ := p2 H' J' r' v a1 a2 a3
      refine ⟨en, S2, J2, r2, w2, e.le l2, ?_⟩
      have p4 := PoE.bind p3
      cases h2 : fb en S2 with
      | stk => rw [h2] at p4; exact p4
      | exc c fs S1 => rw [h2] at p4; exact p4
      | ok y S3 =>
        rw [h2] at p4
        intro H5 J5 r5 v5 b1 b2 b3
        obtain ⟨J6, r6, S6, y6, w6, l6, k6, p6⟩ := p4 H5 J5 r5 v5 b1 b2 b3
        exact ⟨J6, r6, S6, x2, y6, st, w6, k2.le l6, k6, p6⟩)⟩
end
end GW
/-! Core 7: slices, displays, built-in functions and methods. -/
namespace GW
open PySem L2
section
variable {F : Fx} {X : Cx} {W : WS} {pins : List (Addr × Obj)} {s : Shared} {st : L2.St} {H J H1 J1 : Hp} {r r1 : List Addr} {S : Store}
variable {a b c : Expr} {es : List Expr} {pos : Pos}
theorem cutL_rep {F : Fx} {J : Hp} {r : List Addr} {xs : List Val} {vs : List V} (lo hi : Option Int) (t : Reps F J r xs vs) : Reps F J r (cutL xs lo hi) (cutV vs lo hi) := by
  unfold cutL cutV
  rw [t.length]
  exact (t.drop _).take _
theorem cutL_all {xs : List Val} {lo hi : Option Int} (h1 : HT.sIx xs.length 0 lo = 0) (h2 : HT.sIx xs.length xs.length hi = xs.length) : cutL xs lo hi = xs := by
  unfold cutL
  rw [h1, h2, Nat.sub_zero, List.drop_zero, List.take_length]
theorem slr (hK : F.K = X.K) : SlR X fun vx lo hi H Q => ∃ J r S x st, Wo F H J r S ∧ Rep F J r x vx ∧ PoE F W st H J r (slcV x lo hi S) Q := by
  rintro pins s st H vx v vl vu lo hi sl Q I rx hs hl hu ⟨J, r, S, x, st', w, k, p⟩
  unfold slcV at p
  have lists : ∀ {l : Addr} {xs : List Val} {vs : List V}, vx = .ref l → H l = some (.lst vs) → Reps F J r xs vs → PoE F W st' H J r (.ok (.lst (cutL xs lo hi)) S) Q → _ := fun {l xs vs} e q t p =>
    sl_list pins s st H vx v vl vu lo hi sl Q I rx hs hl hu ⟨l, vs, e, SqL.of q, p.newL w (cutL_rep lo hi t)⟩
  split at p
  · cases k with
    | tup q t =>
      refine sl_tupA pins s st H _ v vl vu lo hi sl Q I rx hs hl hu ⟨_, _, rfl, hK ▸ sqT_H w q, fun e => ?_, fun _ => p.newT w (cutL_rep lo hi t)⟩
      rw [cutL_all (by rw [← t.length]; exact e.1) (by rw [← t.length]; exact e.2)] at p
      exact p.stay w (.tup q t)
  · cases k with
    | lst q t => exact lists rfl (w.sub _ _ q) t p
  · cases k
    split at p
    · rename_i hz
      exact sl_str pins s st H _ v vl vu lo hi sl Q I rx hs hl hu ⟨_, rfl, hz, p.stay w (.str _)⟩
    · exact p.elim
  · cases k with
    | ref q =>
      split at p
      · rename_i xs e0
        obtain ⟨b', e2, vs, e3, t⟩ := w.obs _ _ e0
        rw [q] at e2
        cases e2
        exact lists rfl e3 t p
      · exact p.elim
  · exact p.elim
theorem slrR (hK : F.K = X.K) : SlR X fun vx lo hi H Q => ∃ J r S x st, Wo F H J r S ∧ Rep F J r x vx ∧ PoE F W st H J r (slcRV x lo hi S) Q := by
  rintro pins s st H vx v vl vu lo hi sl Q I rx hs hl hu ⟨J, r, S, x, st', w, k, p⟩
  unfold slcRV at p
  have lists : ∀ {l : Addr} {xs : List Val} {vs : List V}, vx = .ref l → H l = some (.lst vs) → Reps F J r xs vs → PoE F W st' H J r (newR (cutL xs lo hi) S) Q → _ := fun {l xs vs} e q t p =>
    sl_list pins s st H vx v vl vu lo hi sl Q I rx hs hl hu ⟨l, vs, e, SqL.of q, (p.newR w (cutL_rep lo hi t)).2⟩
  split at p
  · cases k with
    | lst q t => exact lists rfl (w.sub _ _ q) t p
  · cases k with
    | ref q =>
      split at p
      · rename_i xs e0
        obtain ⟨b', e2, vs, e3, t⟩ := w.obs _ _ e0
        rw [q] at e2
        cases e2
        exact lists rfl e3 t p
      · exact p.elim
  · exact slr hK pins s st H _ v vl vu lo hi sl Q I rx hs hl hu ⟨J, r, S, _, st', w, k, p⟩
/-- what is asked of a slice's bound -/
def PoP (F : Fx) (W : WS) (st : L2.St) (H J : Hp) (r : List Addr) (x : Res (Option Int)) (Q : Option Int → Hp → Prop) : Prop := match x with
  | .ok v S' => ∀ H' J' r', Wo F H' J' r' S' → Le H J r H' J' r' → Q v H'
  | .exc c fs S' => ∀ H' J' r' d ws, Wo F H' J' r' S' → Le H J r H' J' r' → J' d = some (.xd ((F.cf c).zip ws)) → Reps F J' r' fs ws → W.w (.ref (F.ca c)) (some d) st H'
  | .stk => False
def TP (F : Fx) (W : WS) (f : Enm → Store → Res (Option Int)) : L2.TO := fun st H Q => ∃ en S J r, Wo F H J r S ∧ EnW F W J r en st ∧ PoP F W st H J r (f en S) Q
theorem po_no : PO X none (TP F W fun _ S => .ok none S) := ⟨fun pins s st H Q I ⟨en, S, J, r, w, e, p⟩ => po_none.run pins s st H Q I (p H J r w Le.refl)⟩
theorem po_yes {f : Enm → Store → Res Val} (h : PE X a (TT F W f)) : PO X (some a) (TP F W fun en S => (f en S).bind fun x S1 => match x with | .int i => .ok (some i) S1 | _ => .stk) :=
  ⟨fun pins s st H Q I ⟨en, S, J, r, w, e, p⟩ => (po_some h).run pins s st H Q I (by
    refine ⟨en, S, J, r, w, e, ?_⟩
    dsimp only at p
    cases h : f en S with
    | stk => rw [h] at p; exact p
    | exc c fs S1 => rw [h] at p; exact p
    | ok x S1 =>
      rw [h] at p
      intro H' J' r' v a1 a2 a3
      simp only [Res.bind_ok] at p
      cases a3 <;> first | exact p.elim | exact ⟨_, rfl, p H' J' r' a1 a2⟩)⟩
theorem sd_slc (hK : F.K = X.K) {lo hi : Option Expr} {p2 : Pos} {fa : Enm → Store → Res Val} {fl fh : Enm → Store → Res (Option Int)} (ha : PE X a (TT F W fa)) (hl : PO X lo (TP F W fl)) (hh : PO X hi (TP F W fh)) :
    PE X (.Subscript a (.Slice lo hi none p2) pos) (TT F W fun en S => (fa en S).bind fun x S1 => (fl en S1).bind fun l S2 => (fh en S2).bind fun h S3 => slcV x l h S3) :=
  ⟨fun pins s st H Q I q => (pe_slice (slr (W := W) hK) ha hl hh).run pins s st H Q I (by
    obtain ⟨en, S, J, r, w, e, p1⟩ := q
    refine ⟨en, S, J, r, w, e, ?_⟩
    have p2 := PoE.bind p1
    cases h : fa en S with
    | stk => rw [h] at p2; exact p2
    | exc c fs S1 => rw [h] at p2; exact p2
    | ok x S1 =>
      rw [h] at p2
      intro H' J' r' v a1 a2 a3
      obtain ⟨J2, r2, S2, x2, w2, l2, k2, p3⟩ := p2 H' J' r' v a1 a2 a3
      refine ⟨en, S2, J2, r2, w2, e.le l2, ?_⟩
      dsimp only at p3
      cases h2 : fl en S2 with
      | stk => rw [h2] at p3; exact p3
      | exc c fs S1 => rw [h2] at p3; exact fun H' J' r' d ws b1 b2 b3 b4 => p3 H' J' r' d ws b1 b2 b3 b4
      | ok l S3 =>
        rw [h2] at p3
        intro H5 J5 r5 b1 b2
        refine ⟨en, S3, J5, r5, b1, (e.le l2).le b2, ?_⟩
        simp only [Res.bind_ok] at p3
        cases h3 : fh en S3 with
        | stk => rw [h3] at p3; exact p3
        | exc c fs S1 => rw [h3] at p3; exact fun H' J' r' d ws c1 c2 c3 c4 => p3 H' J' r' d ws c1 (b2.trans c2) c3 c4
        | ok u S4 =>
          rw [h3] at p3
          intro H6 J6 r6 c1 c2
          exact ⟨J6, r6, S4, x2, st, c1, (k2.le b2).le c2, p3.le (b2.trans c2)⟩)⟩
theorem sd_slcR (hK : F.K = X.K) {lo hi : Option Expr} {p2 : Pos} {fa : Enm → Store → Res Val} {fl fh : Enm → Store → Res (Option Int)} (ha : PE X a (TT F W fa)) (hl : PO X lo (TP F W fl)) (hh : PO X hi (TP F W fh)) :
    PE X (.Subscript a (.Slice lo hi none p2) pos) (TT F W fun en S => (fa en S).bind fun x S1 => (fl en S1).bind fun l S2 => (fh en S2).bind fun h S3 => slcRV x l h S3) :=
  ⟨fun pins s st H Q I q => (pe_slice (slrR (W := W) hK) ha hl hh).run pins s st H Q I (by
    obtain ⟨en, S, J, r, w, e, p1⟩ := q
    refine ⟨en, S, J, r, w, e, ?_⟩
    have p2 := PoE.bind p1
    cases h : fa en S with
    | stk => rw [h] at p2; exact p2
    | exc c fs S1 => rw [h] at p2; exact p2
    | ok x S1 =>
      rw [h] at p2
      intro H' J' r' v a1 a2 a3
      obtain ⟨J2, r2, S2, x2, w2, l2, k2, p3⟩ := p2 H' J' r' v a1 a2 a3
      refine ⟨en, S2, J2, r2, w2, e.le l2, ?_⟩
      dsimp only at p3
      cases h2 : fl en S2 with
      | stk => rw [h2] at p3; exact p3
      | exc c fs S1 => rw [h2] at p3; exact fun H' J' r' d ws b1 b2 b3 b4 => p3 H' J' r' d ws b1 b2 b3 b4
      | ok l S3 =>
        rw [h2] at p3
        intro H5 J5 r5 b1 b2
        refine ⟨en, S3, J5, r5, b1, (e.le l2).le b2, ?_⟩
        simp only [Res.bind_ok] at p3
        cases h3 : fh en S3 with
        | stk => rw [h3] at p3; exact p3
        | exc c fs S1 => rw [h3] at p3; exact fun H' J' r' d ws c1 c2 c3 c4 => p3 H' J' r' d ws c1 (b2.trans c2) c3 c4
        | ok u S4 =>
          rw [h3] at p3
          intro H6 J6 r6 c1 c2
          exact ⟨J6, r6, S4, x2, st, c1, (k2.le b2).le c2, p3.le (b2.trans c2)⟩)⟩
/-! ### displays -/
theorem mkT_ok {xs : List Val} {Q : VK} (p : PoE F W st H J r (mkT xs S) Q) : xs.length ≤ sizeLine ∧ PoE F W st H J r (.ok (.tup xs) S) Q := by
  unfold mkT at p
  split at p
  · rename_i h; exact ⟨h, p⟩
  · exact p.elim
theorem mkL_ok (w : Wo F H J r S) {b : Bool} {xs : List Val} {vs : List V} (t : Reps F J r xs vs) {Q : VK} (p : PoE F W st H J r (mkL b xs S) Q) : vs.length ≤ sizeLine ∧ ∀ q, H q = none → Q (.ref q) (upd H q (.lst vs)) := by
  unfold mkL at p
  split at p
  · rename_i hz
    refine ⟨by rw [t.length]; exact hz, fun q hq => ?_⟩
    split at p
    · obtain ⟨w2, l2⟩ := w.lay (u := .lst vs) (o := .lst xs) hq ⟨vs, upd_same, t.up (fun _ _ z => z) (List.prefix_append _ _)⟩
      exact p _ _ _ _ w2 l2 (.ref (by rw [← w.len]; simp))
    · exact p.newL w t q hq
  · exact p.elim
theorem sd_tup {kk : Nat} {fs : Enm → Store → Res (List Val)} (h : PA X es (TAA F W fs)) : PE X (.Tuple es kk pos) (TT F W fun en S => (fs en S).bind fun xs S1 => mkT xs S1) :=
  ⟨fun pins s st H Q I q => (pe_tup h).run pins s st H Q I (by
    obtain ⟨en, S, J, r, w, e, p⟩ := TT.ofA (g := fun _ xs S1 => mkT xs S1) q
    refine ⟨en, S, J, r, w, e, ?_⟩
    cases h : fs en S with
    | stk => rw [h] at p; exact p
    | exc c fs S1 => rw [h] at p; exact p
    | ok xs S1 =>
      rw [h] at p
      intro H' J' r' vs a1 a2 a3
      obtain ⟨en2, J2, r2, S2, x2, e2, w2, k2, p2⟩ := p H' J' r' vs a1 a2 a3
      obtain ⟨hz, p2⟩ := mkT_ok p2
      exact ⟨by rw [k2.length]; exact hz, p2.newT w2 k2⟩)⟩
theorem sd_lst {b : Bool} {fs : Enm → Store → Res (List Val)} (h : PA X es (TAA F W fs)) : PE X (.List es pos) (TT F W fun en S => (fs en S).bind fun xs S1 => mkL b xs S1) :=
  ⟨fun pins s st H Q I q => (pe_lst h).run pins s st H Q I (by
    obtain ⟨en, S, J, r, w, e, p⟩ := TT.ofA (g := fun _ xs S1 => mkL b xs S1) q
    refine ⟨en, S, J, r, w, e, ?_⟩
    cases h : fs en S with
    | stk => rw [h] at p; exact p
    | exc c fs S1 => rw [h] at p; exact p
    | ok xs S1 =>
      rw [h] at p
      intro H' J' r' vs a1 a2 a3
      obtain ⟨en2, J2, r2, S2, x2, e2, w2, k2, p2⟩ := p H' J' r' vs a1 a2 a3
      exact mkL_ok w2 k2 p2)⟩
/-- {} -/
theorem sd_dic0 : PE X (.Dict [] [] pos) (TT F W fun _ S => mkD [] [] S) :=
  ⟨fun pins s st H Q I ⟨en, S, J, r, w, e, p⟩ => pe_dnewK.run pins s st H Q I (fun q hq => by
    obtain ⟨w2, l2⟩ := w.lay (u := .dK []) (o := .dct [] []) hq ⟨[], upd_same, .nil, rfl⟩
    exact p _ _ _ _ w2 l2 (.ref (by rw [← w.len]; simp)))⟩
/-- {k: v} -/
theorem sd_dic1 {fk fv : Enm → Store → Res Val} (hk : PE X a (TT F W fk)) (hv : PE X b (TT F W fv)) :
    PE X (.Dict [some a] [b] pos) (TT F W fun en S => (fk en S).bind fun k S1 => (fv en S1).bind fun v S2 => mkD [k] [v] S2) :=
  ⟨fun pins s st H Q I ⟨en, S, J, r, w, e, p⟩ => (pe_disp (pps_cons hk hv pps_nil) rfl rfl (fun z => nomatch z) (by show 1 ≤ 15; decide)).run pins s st H Q I (fun q hq => by
    obtain ⟨w0, l0, n1, n2⟩ := w.aside (u := .dK []) hq
    refine ⟨en, S, J, r, w0, e, ?_⟩
    dsimp only at p
    have p2 := PoE.bind p
    have exq : ∀ {c fs S'}, PoE F W st H J r (.exc c fs S') Q → ∀ {H1 J1 r1}, Le H J r H1 J1 r1 → ∀ {Q' : VK}, PoE F W st H1 J1 r1 (.exc c fs S') Q' := fun z _ _ _ l _ => fun H' J' r' d ws b1 b2 b3 b4 => z H' J' r' d ws b1 (l.trans b2) b3 b4
    cases h : fk en S with
    | stk => rw [h] at p; exact p
    | exc c fs S1 => rw [h] at p; exact exq p l0
    | ok k S1 =>
      rw [h] at p
      simp only [Res.bind_ok] at p
      intro H1 J1 r1 vk a1 a2 a3
      have keep1 := a2.keep q _ upd_same n1
      have j1 : J1 q = none := by
        cases z : J1 q with
        | none => rfl
        | some o => rcases a2.new q o z with y | y
                    · rw [n2] at y; cases y
                    · rw [upd_same] at y; cases y
      refine ⟨en, S1, J1, r1, a1, e.le a2, ?_⟩
      cases h2 : fv en S1 with
      | stk => rw [h2] at p; exact p
      | exc c fs S1 => rw [h2] at p; exact exq p (l0.trans a2)
      | ok v S2 =>
        rw [h2] at p
        simp only [Res.bind_ok] at p
        intro H2 J2 r2 vv b1 b2 b3
        have keep2 := b2.keep q _ keep1.1 keep1.2
        have j2 : J2 q = none := by
          cases z : J2 q with
          | none => rfl
          | some o => rcases b2.new q o z with y | y
                      · rw [j1] at y; cases y
                      · rw [keep1.1] at y; cases y
        unfold mkD at p
        dsimp only at p
        split at p
        · rename_i kk hkk
          refine ⟨keep2.1, [(kk, vv)], ?_, by show 1 ≤ 15; decide, ?_⟩
          · unfold keyV at hkk
            split at hkk
            · cases hkk; cases a3; rfl
            · cases hkk; cases a3; rfl
            · cases hkk
          · have l2 := (l0.trans a2).trans b2
            obtain ⟨w3, l3⟩ := b1.own l2 (p := q) (u := .dK (mergeK [] [(kk, vv)])) (o := .dct [kk] [v]) hq keep2.2 j2 ⟨[vv], by rw [upd_same]; rfl, .cons (b3.up (fun _ _ z => z) (List.prefix_append _ _)) .nil, rfl⟩
            exact p _ _ _ _ w3 l3 (.ref (by rw [← b1.len]; simp))
        · exact p.elim)⟩
end
end GW
/-! Core 8: built-in functions. -/
namespace GW
open PySem L2
section
variable {F : Fx} {X : Cx} {W : WS} {pins : List (Addr × Obj)} {s : Shared} {st : L2.St} {H J H1 J1 : Hp} {r r1 : List Addr} {S : Store}
variable {a b c : Expr} {es : List Expr} {pos : Pos}
def RB (F : Fx) (f : Blt) : List V → Hp → VK → Prop := fun vs H Q => ∃ J r S xs st W, Wo F H J r S ∧ Reps F J r xs vs ∧ PoE F W st H J r (bltV f xs S) Q
theorem reps1 {F : Fx} {J : Hp} {r : List Addr} {x : Val} {vs : List V} (k : Reps F J r [x] vs) : ∃ v, vs = [v] ∧ Rep F J r x v := by
  cases k with
  | cons a b => cases b; exact ⟨_, rfl, a⟩
theorem reps2 {F : Fx} {J : Hp} {r : List Addr} {x y : Val} {vs : List V} (k : Reps F J r [x, y] vs) : ∃ v u, vs = [v, u] ∧ Rep F J r x v ∧ Rep F J r y u := by
  cases k with
  | cons a b => cases b with
    | cons b c => cases c; exact ⟨_, _, rfl, a, b⟩
/-- a list or a tuple that the world tells -/
theorem seq_of (hK : F.K = X.K) (w : Wo F H J r S) {l : Nat} {v : V} {xs : List Val} (k : Rep F J r (.ref l) v) (e : S[l]? = some (.lst xs)) : ∃ p vs, v = .ref p ∧ H p = some (.lst vs) ∧ Reps F J r xs vs := by
  cases k with
  | ref q =>
    obtain ⟨b', e2, vs, e3, t⟩ := w.obs _ _ e
    rw [q] at e2
    cases e2
    exact ⟨_, _, rfl, e3, t⟩
theorem cb_len (hK : F.K = X.K) : CallR X (.builtin "len") (RB F .len) := by
  rintro pins s st H vs us Q I ru ⟨J, r, S, xs, st', W, w, k, p⟩
  unfold bltV at p
  split at p <;> first | exact p.elim | (rename_i h; cases h; done) | skip
  rename_i x h
  obtain ⟨v, rfl, k1⟩ := reps1 k
  unfold lenV at p
  have fin : ∀ {q : Addr} {ys : List V} {xs : List Val}, v = .ref q → (SqL X.K H q ys ∨ SqT X.K H q ys) → Reps F J r xs ys → PoE F W st' H J r (.ok (.int xs.length) S) Q → _ := fun {q ys xs} e hq t p =>
    call_len_seq pins s st H [v] us Q I ru ⟨q, ys, by rw [e], hq, by rw [t.length]; exact p.stay w (.int _)⟩
  split at p
  · cases k1 with
    | tup q t => exact fin rfl (.inr (hK ▸ sqT_H w q)) t p
  · cases k1 with
    | lst q t => exact fin rfl (.inl (SqL.of (w.sub _ _ q))) t p
  · cases k1 with
    | scr q t => exact fin rfl (.inl (hK ▸ sqL_H w q)) t p
  · cases k1
    split at p
    · rename_i hz
      exact call_len_str pins s st H _ us Q I ru ⟨_, rfl, hz, p.stay w (.int _)⟩
    · exact p.elim
  · split at p
    · rename_i e0
      obtain ⟨q, ys, e, hq, t⟩ := seq_of hK w k1 e0
      exact fin e (.inl (SqL.of hq)) t p
    · exact p.elim
  · exact p.elim
theorem cb_int : CallR X (.type "int") (RB F .int) := by
  rintro pins s st H vs us Q I ru ⟨J, r, S, xs, st', W, w, k, p⟩
  unfold bltV at p
  split at p <;> first | exact p.elim | (rename_i h; cases h; done) | skip
  rename_i x h
  obtain ⟨v, rfl, k1⟩ := reps1 k
  unfold intV at p
  split at p
  · cases k1
    exact call_int1 pins s st H _ us Q I ru (.inl ⟨_, rfl, p.stay w (.int _)⟩)
  · cases k1
    exact call_int1 pins s st H _ us Q I ru (.inr ⟨_, rfl, p.stay w (.int _)⟩)
  · cases k1
    split at p
    · rename_i n hn
      split at p
      · rename_i hz
        exact call_int_str pins s st H _ us Q I ru ⟨_, n, rfl, hn, hz, p.stay w (.int _)⟩
      · exact p.elim
    · exact p.elim
  · exact p.elim
theorem cb_abs : CallR X (.builtin "abs") (RB F .abs) := by
  rintro pins s st H vs us Q I ru ⟨J, r, S, xs, st', W, w, k, p⟩
  unfold bltV at p
  split at p <;> first | exact p.elim | (rename_i h; cases h; done) | skip
  obtain ⟨v, rfl, k1⟩ := reps1 k
  cases k1
  exact call_abs pins s st H _ us Q I ru ⟨_, rfl, p.stay w (.int _)⟩
theorem cb_max2 (hc : X.calm = true) : CallR X (.builtin "max") (RB F .max2) := by
  rintro pins s st H vs us Q I ru ⟨J, r, S, xs, st', W, w, k, p⟩
  unfold bltV at p
  split at p <;> first | exact p.elim | (rename_i h; cases h; done) | skip
  obtain ⟨v, u, rfl, k1, k2⟩ := reps2 k
  cases k1
  cases k2
  exact call_max2 hc pins s st H _ us Q I ru ⟨_, _, rfl, p.stay w (.int _)⟩
theorem cb_min2 (hc : X.calm = true) : CallR X (.builtin "min") (RB F .min2) := by
  rintro pins s st H vs us Q I ru ⟨J, r, S, xs, st', W, w, k, p⟩
  unfold bltV at p
  split at p <;> first | exact p.elim | (rename_i h; cases h; done) | skip
  obtain ⟨v, u, rfl, k1, k2⟩ := reps2 k
  cases k1
  cases k2
  exact call_min2 hc pins s st H _ us Q I ru ⟨_, _, rfl, p.stay w (.int _)⟩
theorem cb_str : CallR X (.type "str") (RB F .str) := by
  rintro pins s st H vs us Q I ru ⟨J, r, S, xs, st', W, w, k, p⟩
  unfold bltV at p
  split at p <;> first | exact p.elim | (rename_i h; cases h; done) | skip
  obtain ⟨v, rfl, k1⟩ := reps1 k
  unfold strV at p
  split at p
  · cases k1
    split at p
    · rename_i hz
      exact call_str_int pins s st H _ us Q I ru ⟨_, rfl, hz, p.stay w (.str _)⟩
    · exact p.elim
  · exact p.elim
theorem cb_tuple (hK : F.K = X.K) : CallR X (.type "tuple") (RB F .tuple) := by
  rintro pins s st H vs us Q I ru ⟨J, r, S, xs, st', W, w, k, p⟩
  unfold bltV at p
  split at p <;> first | exact p.elim | (rename_i h; cases h; done) | skip
  obtain ⟨v, rfl, k1⟩ := reps1 k
  unfold tupleV at p
  split at p
  · cases k1 with
    | tup q t => exact call_tuple_of pins s st H _ us Q I ru ⟨_, _, rfl, .inr ⟨hK ▸ sqT_H w q, p.stay w (.tup q t)⟩⟩
  · cases k1 with
    | lst q t => exact call_tuple_of pins s st H _ us Q I ru ⟨_, _, rfl, .inl ⟨SqL.of (w.sub _ _ q), p.newT w t⟩⟩
  · split at p
    · rename_i e0
      obtain ⟨q, ys, rfl, hq, t⟩ := seq_of hK w k1 e0
      exact call_tuple_of pins s st H _ us Q I ru ⟨_, _, rfl, .inl ⟨SqL.of hq, p.newT w t⟩⟩
    · exact p.elim
  · exact p.elim
theorem cb_listV (hK : F.K = X.K) {bb : Bool} : CallR X (.type "list") (fun vs H Q => ∃ J r S x v st W, vs = [v] ∧ Wo F H J r S ∧ Rep F J r x v ∧ PoE F W st H J r (listV bb x S) Q) := by
  rintro pins s st H vs us Q I ru ⟨J, r, S, x, v, st', W, rfl, w, k, p⟩
  unfold listV at p
  split at p
  · cases k with
    | tup q t => exact call_list_of pins s st H _ us Q I ru ⟨_, _, rfl, .inr (hK ▸ sqT_H w q), (mkL_ok w t p).2⟩
  · cases k with
    | lst q t => exact call_list_of pins s st H _ us Q I ru ⟨_, _, rfl, .inl (SqL.of (w.sub _ _ q)), (mkL_ok w t p).2⟩
  · split at p
    · rename_i e0
      obtain ⟨q, ys, rfl, hq, t⟩ := seq_of hK w k e0
      exact call_list_of pins s st H _ us Q I ru ⟨_, _, rfl, .inl (SqL.of hq), (mkL_ok w t p).2⟩
    · exact p.elim
  · exact p.elim
theorem cb_list (hK : F.K = X.K) : CallR X (.type "list") (RB F .list) := by
  rintro pins s st H vs us Q I ru ⟨J, r, S, xs, st', W, w, k, p⟩
  unfold bltV at p
  split at p <;> first | exact p.elim | (rename_i h; cases h; done) | skip
  obtain ⟨v, rfl, k1⟩ := reps1 k
  exact cb_listV hK pins s st H _ us Q I ru ⟨J, r, S, _, v, st', W, rfl, w, k1, p⟩
theorem cb_listR (hK : F.K = X.K) : CallR X (.type "list") (RB F .listR) := by
  rintro pins s st H vs us Q I ru ⟨J, r, S, xs, st', W, w, k, p⟩
  unfold bltV at p
  split at p <;> first | exact p.elim | (rename_i h; cases h; done) | skip
  obtain ⟨v, rfl, k1⟩ := reps1 k
  exact cb_listV hK pins s st H _ us Q I ru ⟨J, r, S, _, v, st', W, rfl, w, k1, p⟩
theorem ints_rep {F : Fx} {J : Hp} {r : List Addr} : ∀ {xs : List Val} {vs : List V} {is : List Int}, Reps F J r xs vs → ints? xs = some is → vs = is.map V.int
  | _, _, _, .nil, e => by cases e; rfl
  | _, _, is, .cons (x := x) (xs := xs) a b, e => by
    unfold ints? at e
    split at e
    · rename_i h; cases h
    · rename_i i r' h
      cases h
      simp only [Option.map_eq_some_iff] at e
      obtain ⟨js, e1, rfl⟩ := e
      cases a
      rw [ints_rep b e1]
      rfl
    · cases e
theorem bls_rep {F : Fx} {J : Hp} {r : List Addr} : ∀ {xs : List Val} {vs : List V} {is : List Bool}, Reps F J r xs vs → bls? xs = some is → vs = is.map V.bl
  | _, _, _, .nil, e => by cases e; rfl
  | _, _, is, .cons (x := x) (xs := xs) a b, e => by
    unfold bls? at e
    split at e
    · rename_i h; cases h
    · rename_i i r' h
      cases h
      simp only [Option.map_eq_some_iff] at e
      obtain ⟨js, e1, rfl⟩ := e
      cases a
      rw [bls_rep b e1]
      rfl
    · cases e
theorem strs_rep {F : Fx} {J : Hp} {r : List Addr} : ∀ {xs : List Val} {vs : List V} {is : List Str}, Reps F J r xs vs → strs? xs = some is → vs = is.map V.str
  | _, _, _, .nil, e => by cases e; rfl
  | _, _, is, .cons (x := x) (xs := xs) a b, e => by
    unfold strs? at e
    split at e
    · rename_i h; cases h
    · rename_i i r' h
      cases h
      simp only [Option.map_eq_some_iff] at e
      obtain ⟨js, e1, rfl⟩ := e
      cases a
      rw [strs_rep b e1]
      rfl
    · cases e
theorem cb_sum (hc : X.calm = true) : CallR X (.builtin "sum") (RB F .sum) := by
  rintro pins s st H vs us Q I ru ⟨J, r, S, xs, st', W, w, k, p⟩
  unfold bltV at p
  split at p <;> first | exact p.elim | (rename_i h; cases h; done) | skip
  obtain ⟨v, rfl, k1⟩ := reps1 k
  unfold sumV at p
  split at p
  · rename_i ys hs
    split at p
    · rename_i is hi
      obtain ⟨q, zs, rfl, hq, t⟩ := seqL_at w k1 hs
      rw [ints_rep t hi] at hq
      exact cr_sum hc pins s st H _ us Q I ru ⟨q, is, rfl, SqL.of hq, p.stay w (.int _)⟩
    · exact p.elim
  · exact p.elim
theorem cb_all (hc : X.calm = true) : CallR X (.builtin "all") (RB F .all) := by
  rintro pins s st H vs us Q I ru ⟨J, r, S, xs, st', W, w, k, p⟩
  unfold bltV at p
  split at p <;> first | exact p.elim | (rename_i h; cases h; done) | skip
  obtain ⟨v, rfl, k1⟩ := reps1 k
  unfold allV at p
  split at p
  · rename_i ys hs
    split at p
    · rename_i is hi
      obtain ⟨q, zs, rfl, hq, t⟩ := seqL_at w k1 hs
      rw [bls_rep t hi] at hq
      exact cr_all hc pins s st H _ us Q I ru ⟨q, is, rfl, SqL.of hq, p.stay w (.bl _)⟩
    · exact p.elim
  · exact p.elim
theorem cb_any (hc : X.calm = true) : CallR X (.builtin "any") (RB F .any) := by
  rintro pins s st H vs us Q I ru ⟨J, r, S, xs, st', W, w, k, p⟩
  unfold bltV at p
  split at p <;> first | exact p.elim | (rename_i h; cases h; done) | skip
  obtain ⟨v, rfl, k1⟩ := reps1 k
  unfold anyV at p
  split at p
  · rename_i ys hs
    split at p
    · rename_i is hi
      obtain ⟨q, zs, rfl, hq, t⟩ := seqL_at w k1 hs
      rw [bls_rep t hi] at hq
      exact cr_any hc pins s st H _ us Q I ru ⟨q, is, rfl, SqL.of hq, p.stay w (.bl _)⟩
    · exact p.elim
  · exact p.elim
/-! ### repr -/
theorem allD_len {f : Val → Option PyData} : ∀ {xs : List Val} {ds : List PyData}, allD f xs = some ds → ds.length = xs.length
  | [], _, e => by cases e; rfl
  | x :: xs, ds, e => by
    unfold allD at e
    cases g1 : f x with
    | none => rw [g1] at e; cases e
    | some d =>
      cases g2 : allD f xs with
      | none => rw [g1, g2] at e; cases e
      | some ds' =>
        rw [g1, g2] at e
        cases e
        exact congrArg (· + 1) (allD_len g2)
theorem rds_all (I : Inv X pins st H s) (f : Val → Option PyData) (ih : ∀ x v d u, Rep F J r x v → f x = some d → RelV v u → ∃ as, Reads s.heap u d as ∧ ∀ a ∈ as, H a ≠ none) :
    ∀ {xs : List Val} {vs : List V} {ds : List PyData} {us : List Value}, Reps F J r xs vs → allD f xs = some ds → Vals vs us → ∃ as, ReadsAll s.heap us ds as ∧ ∀ a ∈ as, H a ≠ none
  | _, _, _, _, .nil, e, q => by cases e; cases q; exact ⟨[], .nil, fun _ h => nomatch h⟩
  | _, _, ds, _, .cons (x := x) (xs := xs) a b, e, q => by
    cases q with
    | cons q1 q2 =>
      unfold allD at e
      cases g1 : f x with
      | none => rw [g1] at e; cases e
      | some d =>
        cases g2 : allD f xs with
        | none => rw [g1, g2] at e; cases e
        | some ds' =>
          rw [g1, g2] at e
          cases e
          obtain ⟨as, k1, k2⟩ := ih _ _ _ _ a g1 q1
          obtain ⟨bs, k3, k4⟩ := rds_all I f ih b g2 q2
          refine ⟨as ++ bs, .cons k1 k3, fun z hz => ?_⟩
          rcases List.mem_append.mp hz with hz | hz
          · exact k2 z hz
          · exact k4 z hz
theorem rd_keys {P : Program} {wd : World} {h : Heap} : ∀ {es : List DictEntry} {kvs : List (Key × V)} {vs : List (Key × Value)}, KV kvs vs → Pairs (mixKind P wd) es vs →
    ReadsAll h (es.map (·.key)) (kvs.map fun q => keyD q.1) [] ∧ Vals (kvs.map (·.2)) (es.map (·.val))
  | _, _, _, .nil, .nil => ⟨.nil, .nil⟩
  | _, _, _, .cons (b := q) q1 q2, .cons (e := e) p1 p2 p3 => by
    obtain ⟨k1, k2⟩ := rd_keys (h := h) q2 p3
    refine ⟨?_, .cons (by show RelV _ e.val; rw [p2]; exact q1.2) k2⟩
    refine ReadsAll.cons (as := []) (bs := []) ?_ k1
    show Reads h e.key (keyD _) []
    rw [q1.1]
    rw [mixKind_is] at p1
    rcases keyIs_shape p1 with ⟨i, t, e1, e2⟩ | ⟨x, t, e1, e2⟩
    · rw [e1, e2]; exact .int _ _
    · rw [e1, e2]; exact .str _ _
theorem rds (hK : F.K = X.K) (I : Inv X pins st H s) (w : Wo F H J r S) : ∀ (n : Nat) (x : Val) (v : V) (d : PyData) (u : Value), Rep F J r x v → toD S n x = some d → RelV v u → ∃ as, Reads s.heap u d as ∧ ∀ a ∈ as, H a ≠ none
  | 0, _, _, _, _, _, e, _ => by cases e
  | n + 1, x, v, d, u, k, e, q => by
    have lists : ∀ {a : Addr} {xs : List Val} {vs : List V} {ds : List PyData}, H a = some (.lst vs) → Reps F J r xs vs → allD (toD S n) xs = some ds → RelV (V.ref a) u → ∃ as, Reads s.heap u (.list ds) as ∧ ∀ a ∈ as, H a ≠ none := fun {a xs vs ds} h t e1 q => by
      cases q
      obtain ⟨its, rv, ⟨o, m, ho, hc, hd, hdat⟩, _⟩ := I.list (SqL.of h)
      obtain ⟨as, k1, k2⟩ := rds_all I (toD S n) (rds hK I w n) t e1 rv
      refine ⟨a :: as, .list ho hc hdat (by simpa using k1), fun z hz => ?_⟩
      rcases List.mem_cons.mp hz with rfl | hz
      · rw [h]; exact fun z => nomatch z
      · exact k2 z hz
    cases k with
    | non => cases e; cases q; exact ⟨[], .none, fun _ h => nomatch h⟩
    | bl b => cases e; cases q; exact ⟨[], .bool _, fun _ h => nomatch h⟩
    | int i => cases e; obtain ⟨t, rfl⟩ := q; exact ⟨[], .int _ _, fun _ h => nomatch h⟩
    | str z => cases e; obtain ⟨t, rfl⟩ := q; exact ⟨[], .str _ _, fun _ h => nomatch h⟩
    | tup g t =>
      simp only [toD, Option.map_eq_some_iff] at e
      obtain ⟨ds, e1, rfl⟩ := e
      cases q
      obtain ⟨its, rv, ⟨o, ho, hc, m, hdat⟩, _⟩ := I.tuple (hK ▸ sqT_H w g)
      obtain ⟨as, k1, k2⟩ := rds_all I (toD S n) (rds hK I w n) t e1 rv
      exact ⟨as, .tuple ho hc hdat (by simpa using k1), k2⟩
    | lst g t =>
      simp only [toD, Option.map_eq_some_iff] at e
      obtain ⟨ds, e1, rfl⟩ := e
      exact lists (w.sub _ _ g) t e1 q
    | scr g t => cases e
    | ref g =>
      simp only [toD] at e
      split at e
      · rename_i xs e0
        simp only [Option.map_eq_some_iff] at e
        obtain ⟨ds, e1, rfl⟩ := e
        obtain ⟨b, e2, vs, e3, t⟩ := w.obs _ _ e0
        rw [g] at e2
        cases e2
        exact lists e3 t e1 q
      · rename_i ks xs e0
        simp only [Option.map_eq_some_iff] at e
        obtain ⟨ds, e1, rfl⟩ := e
        obtain ⟨b, e2, vs, e3, t, hl⟩ := w.obs _ _ e0
        rw [g] at e2
        cases e2
        cases q
        obtain ⟨_, hsys, vs', kv, o, es, ep, ho, ex, hdat, _, hp, _⟩ := dk_of I.hok e3
        obtain ⟨k1, k2⟩ := rd_keys (h := s.heap) kv hp
        have hlen : ks.length = vs.length := by rw [hl, t.length]
        have hfst : (ks.zip vs).map (fun q => keyD q.1) = ks.map keyD := by
          rw [show (fun q : Key × V => keyD q.1) = keyD ∘ Prod.fst from rfl, ← List.map_map, List.map_fst_zip (by omega)]
        rw [hfst] at k1
        rw [List.map_snd_zip (by omega)] at k2
        obtain ⟨as, k3, k4⟩ := rds_all I (toD S n) (rds hK I w n) t e1 k2
        have hds : ds.length = ks.length := by rw [allD_len e1, ← hl]
        refine ⟨_, Reads.dict (kvs := (ks.map keyD).zip ds) (as := []) (bs := as) ho ex.1 hdat ?_ ?_, fun z hz => ?_⟩
        · rw [List.map_fst_zip (by rw [List.length_map]; omega)]; exact k1
        · rw [List.map_snd_zip (by rw [List.length_map]; omega)]; exact k3
        · rcases List.mem_append.mp hz with hz | hz
          · rcases List.mem_cons.mp hz with rfl | hz
            · rw [e3]; exact fun z => nomatch z
            · cases hz
          · exact k4 z hz
      · cases e
    | fn f => cases e
    | exc _ _ => cases e
theorem cb_repr (sx : Sx F X) : CallR X (.builtin "repr") (RB F .repr) := by
  rintro pins s st H vs us Q I ru ⟨J, r, S, xs, st', W, w, k, p⟩
  unfold bltV at p
  split at p <;> first | exact p.elim | (rename_i h; cases h; done) | skip
  obtain ⟨v, rfl, k1⟩ := reps1 k
  unfold reprV at p
  split at p
  · rename_i d hd
    split at p
    · rename_i hz
      obtain ⟨hs, hdp, hlen⟩ := hz
      obtain ⟨u, rfl, ru1⟩ := Vals.one ru
      obtain ⟨as, rd, has⟩ := rds sx.hK I w 12 _ _ _ _ k1 hd ru1
      have fin : ∀ t (k : Nat), RelV (.str d.shown) (.str d.shown t) := fun t k => ⟨t, rfl⟩
      have fr := sx.sm.free I.kIn
      have un : X.A.units + (d.depth + 1) < cLine := by have := sx.un; omega
      have fq : ∀ (g' : Heap) (t' : Tok) (m : Tok), (∀ b o, s.heap.get? b = some o → g'.get? b = some o) → EP X pins st Q (.str d.shown t') { s with heap := g', toks := m } := fun g' t' m hk => ⟨.str d.shown, H, I.kept hk, ⟨t', rfl⟩, p.stay w (.str _)⟩
      have refs : ∀ {a : Addr}, u = .ref a → wpAny (model X.prog X.w) X.A (call (.builtin "repr") [u]) (EP X pins st Q) X.xe s := fun {a} e => by
        rw [e] at rd ⊢
        rcases hs with hs | hs
        · refine PySem.repr_of_reads' rd hs (fun _ hm => ?_) sx.gd un (fun _ _ e => e) fq hlen
          obtain ⟨o, ho⟩ := sx.sm.1
          exact has _ hm (I.bs _ o (I.mod.kin _ _ ho)).2
        · exact big_repr fr rd hs hlen sx.gd un (fun _ _ e => e) fq
      cases rd with
      | none => exact P.repr_of_none ⟨.str _, H, I.tok _, ⟨_, rfl⟩, p.stay w (.str _)⟩
      | bool b => exact P.repr_of_bool ⟨.str _, H, I.tok _, ⟨_, rfl⟩, p.stay w (.str _)⟩
      | int i t =>
        have hi : i.natAbs.log2 < 12000 := by
          rcases hs with hs | hs
          · have : i.natAbs.log2 < 1920 := by simpa [PyData.showable] using hs
            omega
          · unfold big at hs; exact of_decide_eq_true hs
        exact big_call fr hi (by omega) ⟨.str _, H, I.tok _, ⟨_, rfl⟩, p.stay w (.str _)⟩
      | str x t => exact P.repr_of_str ⟨.str _, H, I.tok _, ⟨_, rfl⟩, p.stay w (.str _)⟩ hlen
      | list _ _ _ _ => exact refs rfl
      | tuple _ _ _ _ => exact refs rfl
      | dict _ _ _ _ _ => exact refs rfl
    · exact p.elim
  · exact p.elim
end
end GW
/-! Core 9: built-in functions and methods as expressions. -/
namespace GW
open PySem L2
def okXs : List Expr → Bool
  | [] => true
  | x :: xs => okX x && okXs xs
theorem okXs_any (pos : Pos) (env : Env) : ∀ {es : List Expr}, okXs es = true → (backTo pos (starEach es env)).any (·.1) = false
  | [], _ => rfl
  | x :: xs, h => by
    obtain ⟨h1, h2⟩ := Bool.and_eq_true_iff.mp h
    rw [okX_star h1]
    show (false || (backTo pos (starEach xs env)).any (·.1)) = false
    rw [okXs_any pos env h2]
    rfl
theorem okXs_all (pos : Pos) (env : Env) : ∀ {es : List Expr}, okXs es = true → (backTo pos (starEach es env)).all (fun x => !x.1) = true
  | [], _ => rfl
  | x :: xs, h => by
    obtain ⟨h1, h2⟩ := Bool.and_eq_true_iff.mp h
    rw [okX_star h1]
    show (true && (backTo pos (starEach xs env)).all (fun x => !x.1)) = true
    rw [okXs_all pos env h2]
    rfl
section
variable {F : Fx} {X : Cx} {W : WS} {pins : List (Addr × Obj)} {s : Shared} {st : L2.St} {H J H1 J1 : Hp} {r r1 : List Addr} {S : Store}
variable {a b c e : Expr} {es : List Expr} {pos : Pos}
theorem TAA.mono {f : Enm → Store → Res (List Val)} {Q Q' : List V → Hp → Prop} (h : ∀ vs H, Q vs H → Q' vs H) (p : TAA F W f st H Q) : TAA F W f st H Q' := by
  obtain ⟨en, S, J, r, w, e, p⟩ := p
  refine ⟨en, S, J, r, w, e, ?_⟩
  cases h2 : f en S with
  | ok v S1 => rw [h2] at p; exact fun H' J' r' ws a b c => h _ _ (p H' J' r' ws a b c)
  | exc c fs S1 => rw [h2] at p; exact p
  | stk => rw [h2] at p; exact p
theorem TT.mono {f : Enm → Store → Res Val} {Q Q' : VK} (h : ∀ vs H, Q vs H → Q' vs H) (p : TT F W f st H Q) : TT F W f st H Q' := by
  obtain ⟨en, S, J, r, w, e, p⟩ := p
  refine ⟨en, S, J, r, w, e, ?_⟩
  cases h2 : f en S with
  | ok v S1 => rw [h2] at p; exact fun H' J' r' ws a b c => h _ _ (p H' J' r' ws a b c)
  | exc c fs S1 => rw [h2] at p; exact p
  | stk => rw [h2] at p; exact p
theorem sd_bltB {f : Blt} {id : String} {x : Str} {p : Pos} (hc : CallR X (.builtin id) (RB F f)) (hg : Gl X x) (hm : X.mg x = none) (hv : bootBuiltins x = some (.builtin id)) (hn : x ≠ "__name__") (hd : (x == ("__debug__" : Str)) = false)
    (hx : okXs (e :: es) = true) {fs : Enm → Store → Res (List Val)} (ha : PA X (e :: es) (TAA F W fs)) : PE X (.Call (.Name x p) (e :: es) [] pos) (TT F W fun en S => (fs en S).bind fun xs S1 => bltV f xs S1) := by
  obtain ⟨h1, h2⟩ := Bool.and_eq_true_iff.mp hx
  exact ⟨fun pins s st H Q I q => (pe_callB hc hg hm hv ha hn hd (okX_star h1 _ _) (okXs_any _ _ h2)).run pins s st H Q I (TAA.mono (fun vs H1 ⟨en, J1, r1, S1, xs, _, w, k, p⟩ => ⟨J1, r1, S1, xs, st, W, w, k, p⟩) (TT.ofA (g := fun _ xs S1 => bltV f xs S1) q))⟩
theorem sd_bltT {f : Blt} {id : String} {x : Str} {p : Pos} (hc : CallR X (.type id) (RB F f)) (hg : Gl X x) (hm : X.mg x = none) (hv : bootBuiltins x = some (.type id)) (hn : x ≠ "__name__") (hd : (x == ("__debug__" : Str)) = false)
    (hx : okXs (e :: es) = true) {fs : Enm → Store → Res (List Val)} (ha : PA X (e :: es) (TAA F W fs)) : PE X (.Call (.Name x p) (e :: es) [] pos) (TT F W fun en S => (fs en S).bind fun xs S1 => bltV f xs S1) := by
  obtain ⟨h1, h2⟩ := Bool.and_eq_true_iff.mp hx
  exact ⟨fun pins s st H Q I q => (pe_callTy hc hg hm hv ha hn hd (okX_star h1 _ _) (okXs_any _ _ h2)).run pins s st H Q I (TAA.mono (fun vs H1 ⟨en, J1, r1, S1, xs, _, w, k, p⟩ => ⟨J1, r1, S1, xs, st, W, w, k, p⟩) (TT.ofA (g := fun _ xs S1 => bltV f xs S1) q))⟩
/-- a built-in function's name; a built-in type's -/
def Blt.nm (f : Blt) : Str := match f with
  | .len => "len" | .int => "int" | .abs => "abs" | .max2 => "max" | .min2 => "min" | .str => "str" | .repr => "repr" | .tuple => "tuple" | .list => "list" | .listR => "list" | .sum => "sum" | .all => "all" | .any => "any"
theorem sd_blt (sx : Sx F X) (hc : X.calm = true) (f : Blt) {p : Pos} (hg : Gl X f.nm) (hm : X.mg f.nm = none)
    (hx : okXs (e :: es) = true) {fs : Enm → Store → Res (List Val)} (ha : PA X (e :: es) (TAA F W fs)) : PE X (.Call (.Name f.nm p) (e :: es) [] pos) (TT F W fun en S => (fs en S).bind fun xs S1 => bltV f xs S1) := by
  cases f with
  | len => exact sd_bltB (id := "len") (cb_len sx.hK) hg hm rfl (by decide) (by decide) hx ha
  | int => exact sd_bltT (id := "int") cb_int hg hm rfl (by decide) (by decide) hx ha
  | abs => exact sd_bltB (id := "abs") cb_abs hg hm rfl (by decide) (by decide) hx ha
  | max2 => exact sd_bltB (id := "max") (cb_max2 hc) hg hm rfl (by decide) (by decide) hx ha
  | min2 => exact sd_bltB (id := "min") (cb_min2 hc) hg hm rfl (by decide) (by decide) hx ha
  | str => exact sd_bltT (id := "str") cb_str hg hm rfl (by decide) (by decide) hx ha
  | repr => exact sd_bltB (id := "repr") (cb_repr sx) hg hm rfl (by decide) (by decide) hx ha
  | tuple => exact sd_bltT (id := "tuple") (cb_tuple sx.hK) hg hm rfl (by decide) (by decide) hx ha
  | list => exact sd_bltT (id := "list") (cb_list sx.hK) hg hm rfl (by decide) (by decide) hx ha
  | listR => exact sd_bltT (id := "list") (cb_listR sx.hK) hg hm rfl (by decide) (by decide) hx ha
  | sum => exact sd_bltB (id := "sum") (cb_sum hc) hg hm rfl (by decide) (by decide) hx ha
  | all => exact sd_bltB (id := "all") (cb_all hc) hg hm rfl (by decide) (by decide) hx ha
  | any => exact sd_bltB (id := "any") (cb_any hc) hg hm rfl (by decide) (by decide) hx ha
/-! ### methods -/
def RM (F : Fx) (m : Mth) : V → List V → Hp → VK → Prop := fun v vs H Q => ∃ J r S x xs st W, Wo F H J r S ∧ Rep F J r x v ∧ Reps F J r xs vs ∧ PoE F W st H J r (mthV m x xs S) Q
theorem lstAt_ok (w : Wo F H J r S) {o : Val} {v : V} {l : Nat} {zs : List Val} (k : Rep F J r o v) (h : lstAt S o = some (l, zs)) : ∃ p vs, v = .ref p ∧ r[l]? = some p ∧ H p = some (.lst vs) ∧ Reps F J r zs vs := by
  unfold lstAt at h
  split at h
  · split at h
    · rename_i e0
      cases h
      cases k with
      | ref q =>
        obtain ⟨b', e2, vs, e3, t⟩ := w.obs _ _ e0
        rw [q] at e2
        cases e2
        exact ⟨_, vs, rfl, q, e3, t⟩
    · cases h
  · cases h
theorem wrL_ok (w : Wo F H J r S) {l : Nat} {p : Addr} {zs : List Val} {vs : List V} {x : Val} {v : V} {Q : VK} (e0 : r[l]? = some p) (t : Reps F J r zs vs) (k : Rep F J r x v) (h : PoE F W st H J r (wrL l zs x S) Q) : Q v (upd H p (.lst vs)) := by
  obtain ⟨w2, l2⟩ := w.wr (u := .lst vs) (o := .lst zs) e0 ⟨vs, upd_same, t⟩
  exact h _ _ _ _ w2 l2 k
theorem Reps.dropLast {F : Fx} {J : Hp} {r : List Addr} {xs : List Val} {vs : List V} (t : Reps F J r xs vs) : Reps F J r xs.dropLast vs.dropLast := by
  rw [List.dropLast_eq_take, List.dropLast_eq_take, t.length]
  exact t.take _
theorem Reps.reverse {F : Fx} {J : Hp} {r : List Addr} : ∀ {xs : List Val} {vs : List V}, Reps F J r xs vs → Reps F J r xs.reverse vs.reverse
  | _, _, .nil => .nil
  | _, _, .cons a b => by
    rw [List.reverse_cons, List.reverse_cons]
    exact (Reps.reverse b).app (.cons a .nil)
theorem reps0 {F : Fx} {J : Hp} {r : List Addr} {vs : List V} (k : Reps F J r [] vs) : vs = [] := by cases k; rfl
theorem reps_strs {F : Fx} {J : Hp} {r : List Addr} : ∀ ys : List Str, Reps F J r (ys.map Val.str) (ys.map V.str)
  | [] => .nil
  | y :: ys => .cons (.str y) (reps_strs ys)
theorem mth_ofL {m : Mth} {id : String} (hl : m.isL = true) {r0 : V → List V → Hp → VK → Prop} (h : MtM X id r0)
    (k : ∀ {J r S H l p zs vs xs us st W Q}, Wo F H J r S → r[l]? = some p → H p = some (.lst vs) → Reps F J r zs vs → Reps F J r xs us → PoE F W st H J r (mthL m l zs xs S) Q → r0 (.ref p) us H Q) : MtR X id (RM F m) := by
  rintro pins s st H v vs u us Q I rv ru ⟨J, r, S, x, xs, st', W, w, kx, kxs, p⟩
  unfold mthV at p
  rw [if_pos hl] at p
  split at p
  · rename_i l zs e
    obtain ⟨q, ys, rfl, e0, e1, t⟩ := lstAt_ok w kx e
    exact h pins s st H _ vs u us Q I rv ru (k w e0 e1 t kxs p)
  · exact p.elim
theorem mth_ofS {m : Mth} {id : String} (hl : m.isL = false) {r0 : V → List V → Hp → VK → Prop} (h : MtR X id r0)
    (k : ∀ {J r S H z xs us st W Q}, Wo F H J r S → Reps F J r xs us → PoE F W st H J r (mthS m z xs S) Q → r0 (.str z) us H Q) : MtR X id (RM F m) := by
  rintro pins s st H v vs u us Q I rv ru ⟨J, r, S, x, xs, st', W, w, kx, kxs, p⟩
  unfold mthV at p
  rw [if_neg (by rw [hl]; decide)] at p
  split at p
  · rename_i z e
    have e1 : x = .str z := by
      unfold strAt at e
      split at e
      · cases e; rfl
      · cases e
    subst e1
    cases kx
    exact h pins s st H _ vs u us Q I rv ru (k w kxs p)
  · exact p.elim
theorem md_append : MtR X "list.append" (RM F .append) := mth_ofL rfl mt_append fun w e0 e1 t k p => by
  unfold mthL at p
  split at p <;> first | exact p.elim | (rename_i h; cases h; done) | skip
  obtain ⟨v, rfl, k1⟩ := reps1 k
  split at p
  · rename_i hz
    exact ⟨_, _, v, rfl, rfl, e1, by rw [t.length]; exact hz, wrL_ok w e0 (t.app (.cons k1 .nil)) .non p⟩
  · exact p.elim
theorem md_pop : MtR X "list.pop" (RM F .pop) := mth_ofL rfl mt_pop fun w e0 e1 t k p => by
  unfold mthL at p
  split at p <;> first | exact p.elim | (rename_i h; cases h; done) | skip
  cases reps0 k
  split at p
  · rename_i y hy
    obtain ⟨vy, g1, g2⟩ := t.get hy
    exact ⟨_, _, vy, rfl, rfl, e1, by rw [t.length]; exact g1, wrL_ok w e0 t.dropLast g2 p⟩
  · exact p.elim
theorem md_popAt : MtR X "list.pop" (RM F .popAt) := mth_ofL rfl mt_popAt fun w e0 e1 t k p => by
  unfold mthL at p
  split at p <;> first | exact p.elim | (rename_i h; cases h; done) | skip
  obtain ⟨v, rfl, k1⟩ := reps1 k
  cases k1
  split at p
  · rename_i kk hk
    split at p
    · rename_i y hy
      split at p
      · rename_i hz
        obtain ⟨vy, g1, g2⟩ := t.get hy
        exact ⟨_, _, _, kk, vy, rfl, rfl, e1, hz.1, hz.2, by rw [t.length]; exact hk, g1, wrL_ok w e0 (t.eraseIdx kk) g2 p⟩
      · exact p.elim
    · exact p.elim
  · exact p.elim
theorem md_extend : MtR X "list.extend" (RM F .extend) := mth_ofL rfl mt_extend fun w e0 e1 t k p => by
  unfold mthL at p
  split at p <;> first | exact p.elim | (rename_i h; cases h; done) | skip
  obtain ⟨v, rfl, k1⟩ := reps1 k
  split at p
  · rename_i ys hy
    obtain ⟨b, us, rfl, e2, t2⟩ := seqL_at w k1 hy
    split at p
    · rename_i hz
      exact ⟨_, b, _, us, rfl, rfl, e1, e2, by rw [t.length, t2.length]; exact hz, wrL_ok w e0 (t.app t2) .non p⟩
    · exact p.elim
  · exact p.elim
theorem md_reverse : MtR X "list.reverse" (RM F .reverse) := mth_ofL rfl mt_reverse fun w e0 e1 t k p => by
  unfold mthL at p
  split at p <;> first | exact p.elim | (rename_i h; cases h; done) | skip
  cases reps0 k
  exact ⟨_, _, rfl, rfl, e1, wrL_ok w e0 t.reverse .non p⟩
theorem md_clear : MtR X "list.clear" (RM F .clear) := mth_ofL rfl mt_clear fun w e0 e1 t k p => by
  unfold mthL at p
  split at p <;> first | exact p.elim | (rename_i h; cases h; done) | skip
  cases reps0 k
  exact ⟨_, _, rfl, rfl, e1, wrL_ok w e0 .nil .non p⟩
theorem md_upper : MtR X "str.upper" (RM F .upper) := mth_ofS rfl mt_upper fun w k p => by
  unfold mthS at p
  split at p <;> first | exact p.elim | (rename_i h; cases h; done) | skip
  cases reps0 k
  split at p
  · rename_i hz
    exact ⟨_, rfl, rfl, hz, p.stay w (.str _)⟩
  · exact p.elim
theorem md_join : MtR X "str.join" (RM F .join) := mth_ofS rfl mt_join fun w k p => by
  unfold mthS at p
  split at p <;> first | exact p.elim | (rename_i h; cases h; done) | skip
  obtain ⟨v, rfl, k1⟩ := reps1 k
  split at p
  · rename_i ys hy
    obtain ⟨b, us, rfl, e2, t2⟩ := seqL_at w k1 hy
    split at p
    · rename_i ts ht
      split at p
      · rename_i hz
        rw [strs_rep t2 ht] at e2
        exact ⟨_, b, ts, rfl, rfl, .inl (SqL.of e2), hz, p.stay w (.str _)⟩
      · exact p.elim
    · exact p.elim
  · exact p.elim
theorem md_sindex : MtR X "str.index" (RM F .sindex) := mth_ofS rfl mt_sindex fun w k p => by
  unfold mthS at p
  split at p <;> first | exact p.elim | (rename_i h; cases h; done) | skip
  obtain ⟨v, rfl, k1⟩ := reps1 k
  cases k1
  split at p
  · rename_i i rest hi
    exact ⟨_, _, i, rest, rfl, rfl, hi, p.stay w (.int _)⟩
  · exact p.elim
theorem md_split : MtR X "str.split" (RM F .split) := mth_ofS rfl mt_split fun w k p => by
  unfold mthS at p
  split at p <;> first | exact p.elim | (rename_i h; cases h; done) | skip
  obtain ⟨v, rfl, k1⟩ := reps1 k
  cases k1
  split at p
  · rename_i hz
    exact ⟨_, _, rfl, rfl, hz.1, hz.2, p.newL w (reps_strs _)⟩
  · exact p.elim
theorem md_partition : MtR X "str.partition" (RM F .partition) := mth_ofS rfl mt_partition fun w k p => by
  unfold mthS at p
  split at p <;> first | exact p.elim | (rename_i h; cases h; done) | skip
  obtain ⟨v, rfl, k1⟩ := reps1 k
  cases k1
  split at p
  · rename_i hz
    exact ⟨_, _, rfl, rfl, hz.1, hz.2, p.newT w (.cons (.str _) (.cons (.str _) (.cons (.str _) .nil)))⟩
  · exact p.elim
def Mth.T (m : Mth) : String := if m.isL = true then "list" else "str"
def Mth.nm (m : Mth) : Str := match m with
  | .append => "append" | .pop => "pop" | .popAt => "pop" | .extend => "extend" | .reverse => "reverse" | .clear => "clear" | .upper => "upper" | .join => "join" | .sindex => "index" | .split => "split" | .partition => "partition"
theorem ty_mth (w : Wo F H J r S) {m : Mth} {o : Val} {v : V} {K : PySem.W.Frag} (k : Rep F J r o v) (h : tyOk m o S = true) : tyV K m.T v H := by
  unfold tyOk at h
  unfold Mth.T
  split at h
  · rename_i hl
    rw [if_pos hl]
    obtain ⟨⟨l, zs⟩, hz⟩ := Option.isSome_iff_exists.mp h
    obtain ⟨p, vs, rfl, _, e1, _⟩ := lstAt_ok w k hz
    exact .inl ⟨rfl, vs, SqL.of e1⟩
  · rename_i hl
    rw [if_neg hl]
    obtain ⟨z, hz⟩ := Option.isSome_iff_exists.mp h
    unfold strAt at hz
    split at hz
    · cases hz; cases k; rfl
    · cases hz
structure MK (X : Cx) (F : Fx) (m : Mth) (id : String) : Prop where
  pa : PlainAttrs m.T
  slot : Slot m.T m.nm id
  hty : typeOf (.builtin id) = pure (.type "method_descriptor")
  hm : MtR X id (RM F m)
theorem mk_of (X : Cx) (F : Fx) (m : Mth) : ∃ id, MK X F m id := by
  cases m with
  | append => exact ⟨_, PySem.F.plainAttrs_list, PySem.F.slot_list_append, PySem.F.type_list_append, md_append⟩
  | pop => exact ⟨_, PySem.F.plainAttrs_list, PySem.F.slot_list_pop, PySem.F.type_list_pop, md_pop⟩
  | popAt => exact ⟨_, PySem.F.plainAttrs_list, PySem.F.slot_list_pop, PySem.F.type_list_pop, md_popAt⟩
  | extend => exact ⟨_, PySem.F.plainAttrs_list, PySem.F.slot_list_extend, PySem.F.type_list_extend, md_extend⟩
  | reverse => exact ⟨_, PySem.F.plainAttrs_list, PySem.F.slot_list_reverse, PySem.F.type_list_reverse, md_reverse⟩
  | clear => exact ⟨_, PySem.F.plainAttrs_list, PySem.F.slot_list_clear, PySem.F.type_list_clear, md_clear⟩
  | upper => exact ⟨_, PySem.F.plainAttrs_str, PySem.F.slot_str_upper, PySem.F.type_str_upper, md_upper⟩
  | join => exact ⟨_, PySem.F.plainAttrs_str, PySem.F.slot_str_join, PySem.F.type_str_join, md_join⟩
  | sindex => exact ⟨_, PySem.F.plainAttrs_str, PySem.F.slot_str_index, PySem.F.type_str_index, md_sindex⟩
  | split => exact ⟨_, PySem.F.plainAttrs_str, PySem.F.slot_str_split, PySem.F.type_str_split, md_split⟩
  | partition => exact ⟨_, PySem.F.plainAttrs_str, PySem.F.slot_str_partition, PySem.F.type_str_partition, md_partition⟩
theorem sd_mth0 (m : Mth) {apos : Pos} (hx : okA a = true) (hl : (apos.endLine == pos.line) = true) {fa : Enm → Store → Res Val} (ha : PE X a (TT F W fa)) :
    PE X (.Call (.Attribute a m.nm apos) [] [] pos) (TT F W fun en S => (fa en S).bind fun x S1 => if tyOk m x S1 = true then (Res.ok [] S1).bind fun xs S2 => mthV m x xs S2 else .stk) := by
  obtain ⟨id, mk⟩ := mk_of X F m
  refine ⟨fun pins s st H Q I q => (pe_bm0 mk.pa mk.slot mk.hty mk.hm ha (okA_base hx _ _) hl).run pins s st H Q I (TT.mono (fun v H1 ⟨en, J1, r1, S1, x, _, w, k, p⟩ => ?_) (TT.bind (g := fun _ x S1 => if tyOk m x S1 = true then (Res.ok [] S1).bind fun xs S2 => mthV m x xs S2 else .stk) q))⟩
  split at p
  · rename_i ht
    exact ⟨ty_mth w k ht, J1, r1, S1, x, [], st, W, w, k, .nil, p⟩
  · exact p.elim
theorem sd_mth (m : Mth) {apos : Pos} (hx : okA a = true) (hl : (apos.endLine == pos.line) = true) (hxs : okXs (e :: es) = true) (hn : (e :: es).length < 30) {fa : Enm → Store → Res Val} {fs : Enm → Store → Res (List Val)}
    (ha : PE X a (TT F W fa)) (hs : PA X (e :: es) (TAA F W fs)) :
    PE X (.Call (.Attribute a m.nm apos) (e :: es) [] pos) (TT F W fun en S => (fa en S).bind fun x S1 => if tyOk m x S1 = true then (fs en S1).bind fun xs S2 => mthV m x xs S2 else .stk) := by
  obtain ⟨id, mk⟩ := mk_of X F m
  obtain ⟨h1, h2⟩ := Bool.and_eq_true_iff.mp hxs
  refine ⟨fun pins s st H Q I q => (pe_bm mk.pa mk.slot mk.hty mk.hm ha hs (okA_base hx _ _) (by rw [okXs_all _ _ hxs]; simp [backToKw, keywordEach]; simpa using hn) hl (okX_star h1 _ _) (okXs_any _ _ h2)).run pins s st H Q I ?_⟩
  refine TT.mono (fun v H1 ⟨en, J1, r1, S1, x, e1, w, k, p⟩ => ?_) (TT.bind (g := fun en x S1 => if tyOk m x S1 = true then (fs en S1).bind fun xs S2 => mthV m x xs S2 else .stk) q)
  split at p
  · rename_i ht
    refine ⟨ty_mth w k ht, ?_⟩
    refine TAA.mono (fun vs H2 h => ?_) (⟨en, S1, J1, r1, w, e1, ?_⟩ : TAA F W fs st H1 fun vs H2 => ∃ J2 r2 S2 xs, Wo F H2 J2 r2 S2 ∧ Le H1 J1 r1 H2 J2 r2 ∧ Reps F J2 r2 xs vs ∧ PoE F W st H2 J2 r2 (mthV m x xs S2) Q)
    · obtain ⟨J2, r2, S2, xs, w2, l2, k2, p2⟩ := h
      exact ⟨J2, r2, S2, x, xs, st, W, w2, k.le l2, k2, p2⟩
    · cases h : fs en S1 with
      | stk => rw [h] at p; exact p
      | exc c fs S1 => rw [h] at p; exact p
      | ok xs S2 =>
        rw [h] at p
        exact fun H2 J2 r2 vs w2 l2 k2 => ⟨J2, r2, S2, xs, w2, l2, k2, p.le l2⟩
  · exact p.elim
end
end GW
/-! Core 10: targets, walks over things, comprehensions. -/
namespace GW
open PySem L2
def Tg.ixs : Tg → List Nat
  | .one i => [i]
  | .tup is => is
def gIs : List Nat → TGs
  | [] => gNil
  | i :: is => gCons (gName i) (gIs is)
def gTg (K : PySem.W.Frag) : Tg → TG
  | .one i => gName i
  | .tup is => gTup K is.length (gIs is)
def sets (st : L2.St) : List Nat → List V → L2.St
  | i :: is, v :: vs => sets (st.set i (some v)) is vs
  | _, _ => st
theorem sets_length : ∀ (is : List Nat) (vs : List V) (st : L2.St), (sets st is vs).length = st.length
  | [], _, _ => rfl
  | _ :: _, [], _ => rfl
  | i :: is, v :: vs, st => by show (sets (st.set i (some v)) is vs).length = _; rw [sets_length is vs, List.length_set]
theorem gIs_ok {Q : L2.St → Hp → Prop} {H : Hp} : ∀ (is : List Nat) (vs : List V) (st : L2.St), vs.length = is.length → Q (sets st is vs) H → gIs is vs st H Q
  | [], [], _, _, q => ⟨rfl, q⟩
  | i :: is, v :: vs, st, h, q => ⟨v, vs, rfl, gIs_ok is vs (st.set i (some v)) (by simpa using h) q⟩
def setE (en : Enm) : List Nat → List Val → Enm
  | i :: is, x :: xs => setE (en.set i (some x)) is xs
  | _, _ => en
theorem putT_fold (en : Enm) : ∀ (is : List Nat) (xs : List Val), (is.zip xs).foldl (fun e p => e.set p.1 (some p.2)) en = setE en is xs
  | [], _ => rfl
  | _ :: _, [] => rfl
  | i :: is, x :: xs => putT_fold (en.set i (some x)) is xs
theorem setE_length : ∀ (is : List Nat) (xs : List Val) (en : Enm), (setE en is xs).length = en.length
  | [], _, _ => rfl
  | _ :: _, [], _ => rfl
  | i :: is, v :: vs, st => by show (setE (st.set i (some v)) is vs).length = _; rw [setE_length is vs, List.length_set]
section
variable {F : Fx} {X : Cx} {W : WS} {pins : List (Addr × Obj)} {s : Shared} {st : L2.St} {H J H1 J1 : Hp} {r r1 : List Addr} {S : Store} {en : Enm}
variable {a b c e : Expr} {es : List Expr} {pos : Pos}
/-- the slots told otherwise than at the places ix -/
def EnX (F : Fx) (J : Hp) (r : List Addr) (ix : List Nat) (en : Enm) (st : L2.St) : Prop := ∀ (i : Nat) x, i ∉ ix → en[i]? = some (some x) → ∃ v, st[i]? = some (some v) ∧ Rep F J r x v
theorem EnX.put {ix : List Nat} {x : Val} {v : V} {i : Nat} (p : EnX F J r ix en st) (k : Rep F J r x v) (h : i < st.length) : EnX F J r (ix.filter (· != i)) (en.set i (some x)) (st.set i (some v)) := fun j y hj e => by
  by_cases hij : i = j
  · subst hij
    by_cases hl : i < en.length
    · rw [List.getElem?_set_self hl] at e
      cases e
      exact ⟨v, List.getElem?_set_self h, k⟩
    · rw [List.set_eq_of_length_le (by omega), List.getElem?_eq_none (by omega)] at e
      cases e
  · rw [List.getElem?_set_ne hij] at e ⊢
    exact p j y (fun z => hj (List.mem_filter.mpr ⟨z, by simpa using fun q => hij q.symm⟩)) e
theorem EnX.puts : ∀ (is : List Nat) (ix : List Nat) {xs : List Val} {vs : List V} {en : Enm} {st : L2.St}, EnX F J r ix en st → Reps F J r xs vs → xs.length = is.length → (∀ i ∈ is, i < st.length) → EnX F J r (ix.filter fun i => !(is.contains i)) (setE en is xs) (sets st is vs)
  | [], ix, xs, vs, en, st, p, k, hl, hi => by
    cases k with
    | nil =>
      have e : (ix.filter fun i => !(([] : List Nat).contains i)) = ix := List.filter_eq_self.mpr (fun _ _ => rfl)
      rw [e]
      exact p
    | cons a b => simp at hl
  | i :: is, ix, xs, vs, en, st, p, k, hl, hi => by
    cases k with
    | nil => simp at hl
    | cons a b =>
      have q := EnX.puts is _ (p.put (i := i) a (hi i (List.mem_cons_self ..))) b (by simpa using hl) (fun j hj => by rw [List.length_set]; exact hi j (List.mem_cons_of_mem _ hj))
      have e : (ix.filter (· != i)).filter (fun j => !(is.contains j)) = ix.filter fun j => !((i :: is).contains j) := by
        rw [List.filter_filter]
        congr 1
        funext j
        rw [List.contains_cons]
        cases h1 : (j == i) <;> cases h2 : is.contains j <;> simp [h1, bne]
      rw [e] at q
      exact q
theorem EnX.nil (p : EnX F J r [] en st) : En F J r en st := fun i x e => p i x (fun z => nomatch z) e
theorem En.toX (p : En F J r en st) (ix : List Nat) : EnX F J r ix en st := fun i x _ e => p i x e
/-- a target takes a value: the slots behind it -/
def stT (t : Tg) (x : V) (vs : List V) (st : L2.St) : L2.St := match t with
  | .one i => st.set i (some x)
  | .tup is => sets st is vs
theorem put_ok (hK : F.K = X.K) (t : Tg) (w : Wo F H J r S) {x : Val} {v : V} {en' : Enm} {ix : List Nat} (k : Rep F J r x v) (p : EnX F J r ix en st) (hi : ∀ i ∈ t.ixs, i < st.length) (h : putT t x en = some en') :
    ∃ vs, EnX F J r (ix.filter fun i => !(t.ixs.contains i)) en' (stT t v vs st) ∧ en'.length = en.length ∧ ∀ (st2 : L2.St) (Q : L2.St → Hp → Prop), Q (stT t v vs st2) H → gTg X.K t v st2 H Q := by
  cases t with
  | one i =>
    cases h
    refine ⟨[], ?_, by simp, fun st2 Q q => q⟩
    have q := p.put k (hi i (by simp [Tg.ixs]))
    have e : (fun j => !((Tg.one i).ixs.contains j)) = (· != i) := by
      funext j
      simp [Tg.ixs, bne]
      rfl
    rw [e]
    exact q
  | tup is =>
    unfold putT at h
    dsimp only at h
    split at h
    · rename_i xs
      split at h
      · rename_i hl
        cases h
        cases k with
        | tup q t =>
          rename_i vs _
          rw [putT_fold]
          refine ⟨vs, EnX.puts is ix p t hl hi, setE_length _ _ _, fun st2 Q q2 => ⟨_, vs, rfl, hK ▸ sqT_H w q, by rw [t.length]; exact hl, gIs_ok is vs st2 (by rw [t.length]; exact hl) q2⟩⟩
      · cases h
    · cases h
theorem stT_length (t : Tg) (x : V) (vs : List V) (st : L2.St) : (stT t x vs st).length = st.length := by
  cases t with
  | one i => exact List.length_set ..
  | tup is => exact sets_length _ _ _
/-! ### what is checked against, what stands -/
structure Ck where
  N : List Str
  sc : Scope
  fn : Str → Bool
  calm : Bool
  top : Bool
  ex : Option (Nat × Nat)
/-- the module's names: free built-in ones, the defs, the classes -/
structure Tab where
  bl : List Str
  fn : List Str
  cl : List Str
  ci : List Nat
  cf : List (List Str)
  cs : List (Str × Val)
/-- a name of the text's top that stands for a number or a text -/
def CstAt (mg : Str → Option Value) (x : Str) (v : Val) : Prop := match v with
  | .int i => ∃ t, mg x = some (.int i t)
  | .str z => ∃ t, mg x = some (.str z t)
  | _ => True
def Ck.vis (G : Ck) (i : Nat) (x : Str) : Bool := (G.N[i]? == some x) && (match G.sc.names.lookup x with
  | some .local => true
  | some .cell => true
  | some .free => true
  | _ => false) && !(x == ("__debug__" : Str)) && !(x == ("__classdict__" : Str))
def Ck.loc (G : Ck) (i : Nat) (x : Str) : Bool := (G.N[i]? == some x) && decide (G.ex.map (·.1) ≠ some i) && (match G.sc.names.lookup x with
  | some .local => true
  | some .cell => G.fn x
  | _ => false)
def Ck.glo (G : Ck) (x : Str) : Bool := match G.sc.names.lookup x with
  | some .globalImplicit => true
  | _ => false
def Ck.blk (G : Ck) (scope : Scope) : Ck := ⟨G.N, relS scope G.sc, fun x => scope.names.lookup x == some .cell, G.calm, false, none⟩
def W0 : WS := ⟨fun _ _ _ _ => False, [], fun _ => True⟩
/-- an answer where an exception's wish is E -/
def PoF (F : Fx) (E : XK) (H J : Hp) (r : List Addr) (x : Res Val) (Q : VK) : Prop := match x with
  | .ok v S' => ∀ H' J' r' w, Wo F H' J' r' S' → Le H J r H' J' r' → Rep F J' r' v w → Q w H'
  | .exc c fs S' => ∀ H' J' r' d ws, Wo F H' J' r' S' → Le H J r H' J' r' → J' d = some (.xd ((F.cf c).zip ws)) → Reps F J' r' fs ws → E (.ref (F.ca c)) (some d) H'
  | .stk => False
theorem PoE.toF {x : Res Val} {Q : VK} (p : PoE F W st H J r x Q) : PoF F (WE W.w st) H J r x Q := by
  cases x with
  | ok v S => exact p
  | exc c fs S => exact p
  | stk => exact p
/-- what a def of the text promises -/
def SpF (F : Fx) (np : Nat) (g : List Val → Store → Res Val) : Sp := fun vs H Q E => ∃ J r S xs, Wo F H J r S ∧ Reps F J r xs vs ∧ vs.length = np ∧ PoF F E H J r (g xs S) Q
structure FnG (P : Program) (w : World) (K : PySem.W.Frag) (mg : Str → Option Value) (base : Heap) (k : Nat) (f : Addr) (fd : FuncData) (ps : List Str) (sp : Sp) : Prop where
  run : ∀ (A : Around) (outer : List Env) (s : Shared) (H : Hp) (args : Args) (us : List Value) (vs : List V) (Q : VK) (E : XK), Room k A → A.guards = some [] → Env0 P w K mg base A outer s H → BindsTo s fd args (ps.zip us) → Vals vs us → sp vs H Q E →
    codeAny (model P w) A (.call (.ref f) args) (CR (L2.CX P w) outer P w H s Q E) s
structure Held1 (F : Fx) (P : Program) (w : World) (K : PySem.W.Frag) (mg : Str → Option Value) (base : Heap) (k : Nat) (call : Nat → List Val → Store → Res Val) (np : Nat → Nat) (f : Nat) (x : Str) : Prop where
  hm : mg x = some (.ref (F.fa f))
  kp : PySem.W.keepIn K (.ref (F.fa f)) = true
  fn : ∃ fd ps, FnG P w K mg base k (F.fa f) fd ps (SpF F (np f) (call f)) ∧ Binds K fd ps [] ∧ ps.length = np f
/-- what C(..) promises, C an exception class with an own __init__: its fields are its arguments (the last one first) -/
def SpI (F : Fx) (c : Nat) : Sp := fun vs H Q _ => ∃ a ys, vs = .ref a :: ys ∧ ys.length = (F.cf c).length ∧ H a = some (exo a (F.ca c) none) ∧ ∀ dx, H dx = none → dx ≠ a → Q .non (upd (upd H dx (exd dx ((F.cf c).zip ys.reverse))) a (exo a (F.ca c) (some dx)))
structure Ini (F : Fx) (P : Program) (w : World) (K : PySem.W.Frag) (mg : Str → Option Value) (base : Heap) (c : Nat) : Prop where
  oex : OexC K (F.ca c)
  xfc : XfC K (F.ca c)
  fld : ∀ f ∈ F.cf c, PySem.W.findIn K (.ref (F.ca c)) f = some none
  fn : ∃ fI fd ps, PySem.W.findIn K (.ref (F.ca c)) "__init__" = some (some (.ref fI)) ∧ PySem.W.typeIn K (.ref fI) = some (.type "function") ∧ FnOk P w K mg base (L2.CX P w) 1 fI fd ps (SpI F c) ∧ Binds K fd ps []
structure XOk (F : Fx) (T : Tab) (k : Nat) (O : Om) (np : Nat → Nat) (G : Ck) (X : Cx) (W : WS) : Prop where
  sx : Sx F X
  calm : G.calm = true → X.calm = true
  hN : X.N = G.N
  nd : G.N.Nodup
  sc : X.env.scope = G.sc
  fn : X.fn = G.fn
  tk : Takes X W.w
  rm : G.calm = true → Room k X.A
  sd : G.calm = true → W.sd = []
  po : G.top = true → PassesOwn (model X.prog X.w) X.A X.env X.xe
  hs : G.top = true → X.stack = X.env :: X.outer ∧ X.env.frame = some X.env.locals
  ft : G.top = true → ∀ x, G.fn x = true
  iv : ∀ st i (v : Option V), G.ex.map (·.1) ≠ some i → W.iv st → W.iv (st.set i v)
  ivc : G.calm = true → ∀ st, W.iv st
  fns : ∀ f x, T.fn[f]? = some x → Held1 F X.prog X.w X.K X.mg X.base k O.call np f x
  cls : ∀ c x, T.cl[c]? = some x → X.mg x = some (.ref (F.ca c))
  ini : ∀ c ∈ T.ci, Ini F X.prog X.w X.K X.mg X.base c
  sub : ∀ c d, c < T.cl.length → d < T.cl.length → PySem.W.exmOne X.K (.ref (F.ca c)) (.ref (F.ca d)) = some (O.sub c d)
  nc : O.nc = T.cl.length
  cf : ∀ c, F.cf c = T.cf.getD c []
  xat : ∀ i c, G.ex = some (i, c) → ∃ dd, W.sd = [.ref dd] ∧ ∀ x f pos pos2, X.N[i]? = some x → Vis X.env.scope x → (x == ("__debug__" : Str)) = false → (x == ("__classdict__" : Str)) = false → f ∈ F.cf c → PE X (.Attribute (.Name x pos2) f pos) (fun st H Q => W.iv st ∧ ∃ fs v, H dd = some (.xd fs) ∧ fs.lookup f = some v ∧ Q v H)
  k2 : 2 ≤ k
  bl : ∀ x ∈ T.bl, X.mg x = none
  cst : ∀ x v, T.cs.lookup x = some v → CstAt X.mg x v
  ln : ∀ f xs S, xs.length ≠ np f → O.call f xs S = .stk
variable {T : Tab} {k : Nat} {O : Om} {np : Nat → Nat} {G : Ck}
theorem XOk.blk (o : XOk F T k O np G X W) (s : Shared) (H : Hp) (scope : Scope) (C : Addr) (cl : List (Str × Addr)) (fp : List Addr) :
    XOk F T k O np (G.blk scope) (X.blk s H scope (compEnvC scope cl C X.env) fp) W0 where
  sx := ⟨o.sx.hK, o.sx.un, o.sx.gd, o.sx.sm⟩
  calm := o.calm
  hN := o.hN
  nd := o.nd
  sc := by show relabel scope X.env = relS scope G.sc; rw [← o.sc]; rfl
  fn := rfl
  tk := fun u s' ⟨_, _, _, _, _, _, _, _, _, _, _, _, _, _, _, _, z⟩ => z.elim
  rm := o.rm
  sd := fun _ => rfl
  po := fun z => nomatch z
  hs := fun z => nomatch z
  ft := fun z => nomatch z
  iv := fun _ _ _ _ _ => trivial
  ivc := fun _ _ => trivial
  fns := o.fns
  cls := o.cls
  ini := o.ini
  sub := o.sub
  nc := o.nc
  cf := o.cf
  xat := fun _ _ z => nomatch z
  k2 := o.k2
  bl := o.bl
  cst := o.cst
  ln := o.ln
theorem XOk.vis (o : XOk F T k O np G X W) {i : Nat} {x : Str} (h : G.vis i x = true) : X.N[i]? = some x ∧ Vis X.env.scope x ∧ (x == ("__debug__" : Str)) = false ∧ (x == ("__classdict__" : Str)) = false := by
  unfold Ck.vis at h
  simp only [Bool.and_eq_true, Bool.not_eq_true'] at h
  obtain ⟨⟨⟨h1, h2⟩, h3⟩, h4⟩ := h
  refine ⟨by rw [o.hN]; simpa using h1, ?_, h3, h4⟩
  unfold Vis
  rw [o.sc]
  split at h2 <;> first | exact .inl ‹_› | exact .inr (.inl ‹_›) | exact .inr (.inr ‹_›) | cases h2
theorem XOk.loc' (o : XOk F T k O np G X W) {i : Nat} {x : Str} (h : G.loc i x = true) : (X.N[i]? = some x ∧ L2.Loc X.env.scope x ∧ (X.fn x = true ∨ X.env.scope.names.lookup x = some .local)) ∧ G.ex.map (·.1) ≠ some i := by
  unfold Ck.loc at h
  simp only [Bool.and_eq_true] at h
  obtain ⟨⟨h1, hex⟩, h2⟩ := h
  refine ⟨⟨by rw [o.hN]; simpa using h1, ?_⟩, of_decide_eq_true hex⟩
  unfold L2.Loc
  rw [o.sc, o.fn]
  split at h2
  · exact ⟨.inl ‹_›, .inr ‹_›⟩
  · exact ⟨.inr ‹_›, .inl h2⟩
  · cases h2
theorem XOk.loc (o : XOk F T k O np G X W) {i : Nat} {x : Str} (h : G.loc i x = true) : X.N[i]? = some x ∧ L2.Loc X.env.scope x ∧ (X.fn x = true ∨ X.env.scope.names.lookup x = some .local) := (o.loc' h).1
theorem XOk.glo (o : XOk F T k O np G X W) {x : Str} (h : G.glo x = true) : Gl X x := by
  unfold Ck.glo at h
  show X.env.scope.names.lookup x = _
  rw [o.sc]
  split at h
  · assumption
  · cases h
theorem XOk.nd' (o : XOk F T k O np G X W) : X.N.Nodup := by rw [o.hN]; exact o.nd
/-! ### targets -/
def okGs (G : Ck) : List Nat → List Expr → Bool
  | [], [] => true
  | i :: is, .Name x _ :: es => G.loc i x && okGs G is es
  | _, _ => false
def okTg (G : Ck) (t : Tg) (e : Expr) : Bool := match t, e with
  | .one i, .Name x _ => G.loc i x
  | .tup is, .Tuple es _ _ => okGs G is es
  | _, _ => false
theorem okGs_ok (o : XOk F T k O np G X W) : ∀ {is : List Nat} {es : List Expr}, okGs G is es = true → PGs X es (gIs is) ∧ (assignEach es X.env).length = is.length ∧ (assignEach es X.env).findIdx? (·.1) = none ∧ ∀ i ∈ is, i < G.N.length
  | [], [], _ => ⟨pgs_nil, rfl, rfl, fun _ z => nomatch z⟩
  | i :: is, .Name x p :: es, h => by
    obtain ⟨h1, h2⟩ := Bool.and_eq_true_iff.mp h
    obtain ⟨q1, q2, q3⟩ := o.loc h1
    obtain ⟨p1, p2, p3, p4⟩ := okGs_ok o h2
    refine ⟨pgs_cons (pg_name o.nd' q1 q2 q3) p1, ?_, ?_, fun j hj => ?_⟩
    · show (assignEach es X.env).length + 1 = _; rw [p2]; rfl
    · show ((false, _) :: assignEach es X.env).findIdx? (·.1) = none
      rw [List.findIdx?_cons]
      simp [p3]
    · rcases List.mem_cons.mp hj with rfl | hj
      · rw [o.hN] at q1; exact (List.getElem?_eq_some_iff.mp q1).1
      · exact p4 j hj
  | [], _ :: _, h => by cases h
  | _ :: _, [], h => by cases h
  | i :: is, e :: es, h => by
    cases e <;> first | (cases h; done) | skip
    rename_i x p
    obtain ⟨h1, h2⟩ := Bool.and_eq_true_iff.mp h
    obtain ⟨q1, q2, q3⟩ := o.loc h1
    obtain ⟨p1, p2, p3, p4⟩ := okGs_ok o h2
    refine ⟨pgs_cons (pg_name o.nd' q1 q2 q3) p1, ?_, ?_, fun j hj => ?_⟩
    · show (assignEach es X.env).length + 1 = _; rw [p2]; rfl
    · show ((false, _) :: assignEach es X.env).findIdx? (·.1) = none
      rw [List.findIdx?_cons]
      simp [p3]
    · rcases List.mem_cons.mp hj with rfl | hj
      · rw [o.hN] at q1; exact (List.getElem?_eq_some_iff.mp q1).1
      · exact p4 j hj
theorem okTg_ok (o : XOk F T k O np G X W) (hcm : G.calm = true) {t : Tg} {e : Expr} (h : okTg G t e = true) : PG X e (gTg X.K t) ∧ ∀ i ∈ t.ixs, i < G.N.length := by
  unfold okTg at h
  split at h
  · obtain ⟨q1, q2, q3⟩ := o.loc h
    refine ⟨pg_name o.nd' q1 q2 q3, fun j hj => ?_⟩
    cases List.mem_singleton.mp hj
    rw [o.hN] at q1; exact (List.getElem?_eq_some_iff.mp q1).1
  · obtain ⟨p1, p2, p3, p4⟩ := okGs_ok o h
    exact ⟨pg_tup (o.calm hcm) p1 p2 p3, p4⟩
  · cases h
end
end GW
/-! Core 11: what a loop walks. -/
namespace GW
open PySem L2
section
variable {F : Fx} {X : Cx} {W : WS} {pins : List (Addr × Obj)} {s : Shared} {st : L2.St} {H J H1 J1 H0 J0 : Hp} {r r1 r0 : List Addr} {S S0 : Store} {en : Enm}
variable {a b c e tg : Expr} {es : List Expr} {pos : Pos}
/-- the iterator's turns are the items, while the world keeps what it says and the walked lists stand -/
def Iok (F : Fx) (it : L2.It) (wk : Wk) (H0 J0 : Hp) (r0 : List Addr) : Prop := ∀ H J r S i, Le H0 J0 r0 H J r → Wo F H J r S → live S wk.cs wk.xs → (wk.its.length ≤ i → it.stop i H) ∧
  ∀ v, wk.its[i]? = some v → it.go i H ∧ ∀ x H', it.yld i H x H' → ∃ J', Wo F H' J' r S ∧ Le H J r H' J' r ∧ Rep F J' r v x
def PoW (F : Fx) (W : WS) (st : L2.St) (H J : Hp) (r : List Addr) (x : Res Wk) (R : L2.It → Hp → Prop) : Prop := match x with
  | .ok wk S' => ∀ H' J' r' it, Wo F H' J' r' S' → Le H J r H' J' r' → Iok F it wk H' J' r' → R it H'
  | .exc c fs S' => ∀ H' J' r' d ws, Wo F H' J' r' S' → Le H J r H' J' r' → J' d = some (.xd ((F.cf c).zip ws)) → Reps F J' r' fs ws → W.w (.ref (F.ca c)) (some d) st H'
  | .stk => False
def TW (F : Fx) (W : WS) (f : Enm → Store → Res Wk) : TI := fun st H R => ∃ en S J r, Wo F H J r S ∧ EnW F W J r en st ∧ PoW F W st H J r (f en S) R
theorem PoW.le {x : Res Wk} {R : L2.It → Hp → Prop} (l : Le H J r H1 J1 r1) (p : PoW F W st H J r x R) : PoW F W st H1 J1 r1 x R := by
  cases x with
  | ok v S => exact fun H' J' r' w a b c => p H' J' r' w a (l.trans b) c
  | exc c fs S => exact fun H' J' r' d ws a b e f => p H' J' r' d ws a (l.trans b) e f
  | stk => exact p
theorem TW.ofE {f : Enm → Store → Res Val} {g : Enm → Val → Store → Res Wk} {R : L2.It → Hp → Prop} (p : TW F W (fun en S => (f en S).bind (g en)) st H R) :
    TT F W f st H fun v H1 => ∃ en J1 r1 S1 x, EnW F W J1 r1 en st ∧ Wo F H1 J1 r1 S1 ∧ Rep F J1 r1 x v ∧ PoW F W st H1 J1 r1 (g en x S1) R := by
  obtain ⟨en, S, J, r, w, e, p⟩ := p
  refine ⟨en, S, J, r, w, e, ?_⟩
  dsimp only at p
  cases h : f en S with
  | ok v S1 =>
    rw [h] at p
    exact fun H' J' r' vw a b c => ⟨en, J', r', S1, v, e.le b, a, c, PoW.le b p⟩
  | exc c fs S1 => rw [h] at p; exact p
  | stk => rw [h] at p; exact p
def live1 (S : Store) (v : Val) (xs : List Val) : Prop := match v with
  | .ref l => S[l]? = some (.lst xs)
  | _ => True
theorem live_one {v : Val} {xs : List Val} (h : live S [v] [xs]) : live1 S v xs := by
  have h1 := h (v, xs) (by simp)
  cases v <;> first | trivial | exact h1
theorem live_two {v u : Val} {xs ys : List Val} (h : live S [v, u] [xs, ys]) : live1 S v xs ∧ live1 S u ys := by
  have h1 := h (v, xs) (by simp)
  have h2 := h (u, ys) (by simp)
  exact ⟨by cases v <;> first | trivial | exact h1, by cases u <;> first | trivial | exact h2⟩
theorem lst_at (hK : F.K = X.K) (w : Wo F H J r S) {v : Val} {u : V} {xs : List Val} (k : Rep F J r v u) (h : lstI S v = some xs) : ∃ a vs, u = .ref a ∧ SqL X.K H a vs ∧ Reps F J r xs vs := by
  unfold lstI at h
  split at h
  · cases h; cases k with
    | lst q t => exact ⟨_, _, rfl, SqL.of (w.sub _ _ q), t⟩
  · cases h; cases k with
    | scr q t => exact ⟨_, _, rfl, hK ▸ sqL_H w q, t⟩
  · split at h
    · rename_i e0
      cases h
      obtain ⟨q, ys, rfl, hq, t⟩ := seq_of hK w k e0
      exact ⟨q, ys, rfl, SqL.of hq, t⟩
    · cases h
  · cases h
theorem lst_later (hK : F.K = X.K) (l : Le H0 J0 r0 H J r) (w : Wo F H J r S) {v : Val} {u : V} {xs : List Val} (k : Rep F J0 r0 v u) (h : lstI S0 v = some xs) (lv : live1 S v xs) : ∃ a vs, u = .ref a ∧ SqL X.K H a vs ∧ Reps F J r xs vs := by
  refine lst_at hK w (k.le l) ?_
  unfold lstI at h ⊢
  split at h
  · exact h
  · exact h
  · split at h
    · cases h
      have lv : S[_]? = _ := lv
      rw [lv]
    · cases h
  · cases h
theorem tup_at (hK : F.K = X.K) (w : Wo F H J r S) {v : Val} {u : V} {xs : List Val} (k : Rep F J r v u) (h : tupI v = some xs) : ∃ a vs, u = .ref a ∧ SqT X.K H a vs ∧ Reps F J r xs vs := by
  unfold tupI at h
  split at h
  · cases h; cases k with
    | tup q t => exact ⟨_, _, rfl, hK ▸ sqT_H w q, t⟩
  · cases h
theorem get_same {vs : List V} {i : Nat} {x y : V} (h : vs[i]? = some x) (e : vs[i]? = some y) : x = y := by rw [h] at e; exact Option.some.inj e
/-! ### the iterators -/
theorem iok_list (hK : F.K = X.K) {v : Val} {p : Addr} {xs : List Val} (k : Rep F J0 r0 v (.ref p)) (h : lstI S0 v = some xs) : Iok F (Itl X.K p) ⟨[v], [xs], xs⟩ H0 J0 r0 := fun H J r S i l w lv => by
  obtain ⟨a, vs, e, hq, t⟩ := lst_later hK l w k h (live_one lv)
  cases e
  refine ⟨fun hi => ⟨vs, hq, by rw [t.length]; exact hi⟩, fun z hz => ?_⟩
  obtain ⟨vx, g1, g2⟩ := t.get hz
  refine ⟨⟨vs, vx, hq, g1⟩, fun x H' ⟨e1, e2⟩ => ?_⟩
  subst e1
  rw [get_same (e2 vs hq) g1]
  exact ⟨J, w, Le.refl, g2⟩
theorem iok_tup (hK : F.K = X.K) (w0 : Wo F H0 J0 r0 S0) {v : Val} {p : Addr} {xs : List Val} (k : Rep F J0 r0 v (.ref p)) (h : tupI v = some xs) (cs : List Val) (ys : List (List Val)) : Iok F (Itt X.K p) ⟨cs, ys, xs⟩ H0 J0 r0 := fun H J r S i l w lv => by
  obtain ⟨a, vs, e, hq, t⟩ := tup_at hK w (k.le l) h
  cases e
  refine ⟨fun hi => ⟨vs, hq, by rw [t.length]; exact hi⟩, fun z hz => ?_⟩
  obtain ⟨vx, g1, g2⟩ := t.get hz
  refine ⟨⟨vs, vx, hq, g1⟩, fun x H' ⟨e1, e2⟩ => ?_⟩
  subst e1
  rw [get_same (e2 vs hq) g1]
  exact ⟨J, w, Le.refl, g2⟩
theorem iok_str {z : Str} (cs : List Val) (ys : List (List Val)) : Iok F (Its z) ⟨cs, ys, z.cps.toList.map fun c => .str ⟨#[c]⟩⟩ H0 J0 r0 := fun H J r S i l w lv => by
  refine ⟨fun hi => by show z.cps.size ≤ i; simpa using hi, fun v hv => ?_⟩
  rw [List.getElem?_map, Option.map_eq_some_iff] at hv
  obtain ⟨c, hc, rfl⟩ := hv
  rw [Array.getElem?_toList] at hc
  refine ⟨(Array.getElem?_eq_some_iff.mp hc).1, fun x H' ⟨e1, c', e2, e3⟩ => ?_⟩
  subst e1
  rw [hc] at e2
  cases e2
  subst e3
  exact ⟨J, w, Le.refl, .str _⟩
theorem iok_rng (lo hi : Int) : Iok F (Itr lo (hi - lo).toNat) ⟨[], [], rngL lo hi⟩ H0 J0 r0 := fun H J r S i l w lv => by
  refine ⟨fun h => by show (hi - lo).toNat ≤ i; simpa [rngL] using h, fun v hv => ?_⟩
  unfold rngL at hv
  rw [List.getElem?_map, Option.map_eq_some_iff] at hv
  obtain ⟨c, hc, rfl⟩ := hv
  obtain ⟨hc1, hc2⟩ := List.getElem?_eq_some_iff.mp hc
  rw [List.getElem_range] at hc2
  subst hc2
  refine ⟨by show i < (hi - lo).toNat; simpa using hc1, fun x H' ⟨e1, e2⟩ => ?_⟩
  subst e1
  subst e2
  exact ⟨J, w, Le.refl, .int _⟩
theorem new_pair (w : Wo F H J r S) {T : Addr} (hT : H T = none) {x y : Val} {u v : V} (k1 : Rep F J r x u) (k2 : Rep F J r y v) : ∃ J', Wo F (upd H T (.tup [u, v])) J' r S ∧ Le H J r (upd H T (.tup [u, v])) J' r ∧ Rep F J' r (.tup [x, y]) (.ref T) := by
  obtain ⟨w2, l2⟩ := w.frz (o := .tup [u, v]) hT
  exact ⟨_, w2, l2, .tup (.inl (.inl upd_same)) (.cons (k1.le l2) (.cons (k2.le l2) .nil))⟩
theorem iok_enum (hK : F.K = X.K) {v : Val} {p : Addr} {xs : List Val} (k : Rep F J0 r0 v (.ref p)) (h : lstI S0 v = some xs) : Iok F (Ite X.K p) ⟨[v], [xs], xs.mapIdx fun (k : Nat) x => .tup [.int k, x]⟩ H0 J0 r0 := fun H J r S i l w lv => by
  obtain ⟨a, vs, e, hq, t⟩ := lst_later hK l w k h (live_one lv)
  cases e
  refine ⟨fun hi => ⟨vs, hq, by rw [t.length]; simpa using hi⟩, fun z hz => ?_⟩
  rw [List.getElem?_mapIdx, Option.map_eq_some_iff] at hz
  obtain ⟨y, hy, rfl⟩ := hz
  obtain ⟨vx, g1, g2⟩ := t.get hy
  refine ⟨⟨vs, vx, hq, g1⟩, fun x H' ⟨T, x', e0, hT, e1, e2⟩ => ?_⟩
  subst e1
  subst e0
  rw [get_same (e2 vs hq) g1]
  exact new_pair w hT (.int _) g2
theorem iok_zip (hK : F.K = X.K) {v u : Val} {p q : Addr} {xs ys : List Val} (k : Rep F J0 r0 v (.ref p)) (h : lstI S0 v = some xs) (k2 : Rep F J0 r0 u (.ref q)) (h2 : lstI S0 u = some ys) :
    Iok F (Itz X.K p q) ⟨[v, u], [xs, ys], (xs.zip ys).map fun p => .tup [p.1, p.2]⟩ H0 J0 r0 := fun H J r S i l w lv => by
  obtain ⟨a, vs, e, hq, t⟩ := lst_later hK l w k h (live_two lv).1
  cases e
  obtain ⟨a, us, e, hq2, t2⟩ := lst_later hK l w k2 h2 (live_two lv).2
  cases e
  refine ⟨fun hi => ⟨vs, us, hq, hq2, ?_⟩, fun z hz => ?_⟩
  · rw [t.length, t2.length]
    simp only [List.length_map, List.length_zip] at hi
    omega
  · rw [List.getElem?_map, Option.map_eq_some_iff] at hz
    obtain ⟨⟨y1, y2⟩, hy, rfl⟩ := hz
    rw [List.getElem?_zip_eq_some] at hy
    obtain ⟨vx, g1, g2⟩ := t.get hy.1
    obtain ⟨vy, g3, g4⟩ := t2.get hy.2
    refine ⟨⟨vs, us, vx, vy, hq, hq2, g1, g3⟩, fun x H' ⟨T, x', y', e0, hT, e1, e2, e3⟩ => ?_⟩
    subst e1
    subst e0
    rw [get_same (e2 vs hq) g1, get_same (e3 us hq2) g3]
    exact new_pair w hT g2 g4
theorem iok_zipT (hK : F.K = X.K) {v u : Val} {p q : Addr} {xs ys : List Val} (k : Rep F J0 r0 v (.ref p)) (h : tupI v = some xs) (k2 : Rep F J0 r0 u (.ref q)) (h2 : tupI u = some ys) :
    Iok F (RZ.ItzT X.K p q) ⟨[], [], (xs.zip ys).map fun p => .tup [p.1, p.2]⟩ H0 J0 r0 := fun H J r S i l w lv => by
  obtain ⟨a, vs, e, hq, t⟩ := tup_at hK w (k.le l) h
  cases e
  obtain ⟨a, us, e, hq2, t2⟩ := tup_at hK w (k2.le l) h2
  cases e
  refine ⟨fun hi => ⟨vs, us, hq, hq2, ?_⟩, fun z hz => ?_⟩
  · rw [t.length, t2.length]
    simp only [List.length_map, List.length_zip] at hi
    omega
  · rw [List.getElem?_map, Option.map_eq_some_iff] at hz
    obtain ⟨⟨y1, y2⟩, hy, rfl⟩ := hz
    rw [List.getElem?_zip_eq_some] at hy
    obtain ⟨vx, g1, g2⟩ := t.get hy.1
    obtain ⟨vy, g3, g4⟩ := t2.get hy.2
    refine ⟨⟨vs, us, vx, vy, hq, hq2, g1, g3⟩, fun x H' ⟨T, x', y', e0, hT, e1, e2, e3⟩ => ?_⟩
    subst e1
    subst e0
    rw [get_same (e2 vs hq) g1, get_same (e3 us hq2) g3]
    exact new_pair w hT g2 g4
theorem rev_at {xs : List Val} {i : Nat} {z : Val} (h : xs.reverse[i]? = some z) : i < xs.length ∧ xs[xs.length - 1 - i]? = some z := by
  have hi : i < xs.reverse.length := (List.getElem?_eq_some_iff.mp h).1
  rw [List.length_reverse] at hi
  exact ⟨hi, by rw [List.getElem?_reverse hi] at h; exact h⟩
theorem iok_rev (hK : F.K = X.K) {v : Val} {p : Addr} {xs : List Val} (k : Rep F J0 r0 v (.ref p)) (h : lstI S0 v = some xs) {n : Nat} (hn : n = xs.length) : Iok F (Itv X.K p n) ⟨[v], [xs], xs.reverse⟩ H0 J0 r0 := fun H J r S i l w lv => by
  subst hn
  obtain ⟨a, vs, e, hq, t⟩ := lst_later hK l w k h (live_one lv)
  cases e
  refine ⟨fun hi => by show xs.length ≤ i; simpa using hi, fun z hz => ?_⟩
  obtain ⟨h1, h2⟩ := rev_at hz
  obtain ⟨vx, g1, g2⟩ := t.get h2
  refine ⟨⟨h1, vs, vx, hq, g1⟩, fun x H' ⟨e1, e2⟩ => ?_⟩
  subst e1
  rw [get_same (e2 vs hq) g1]
  exact ⟨J, w, Le.refl, g2⟩
theorem iok_revT (hK : F.K = X.K) {v : Val} {p : Addr} {xs : List Val} (k : Rep F J0 r0 v (.ref p)) (h : tupI v = some xs) {n : Nat} (hn : n = xs.length) : Iok F (RT.ItvT X.K p n) ⟨[], [], xs.reverse⟩ H0 J0 r0 := fun H J r S i l w lv => by
  subst hn
  obtain ⟨a, vs, e, hq, t⟩ := tup_at hK w (k.le l) h
  cases e
  refine ⟨fun hi => by show xs.length ≤ i; simpa using hi, fun z hz => ?_⟩
  obtain ⟨h1, h2⟩ := rev_at hz
  obtain ⟨vx, g1, g2⟩ := t.get h2
  refine ⟨⟨h1, vs, vx, hq, g1⟩, fun x H' ⟨e1, e2⟩ => ?_⟩
  subst e1
  rw [get_same (e2 vs hq) g1]
  exact ⟨J, w, Le.refl, g2⟩
/-! ### as iterables -/
theorem PoW.here {wk : Wk} {R : L2.It → Hp → Prop} (p : PoW F W st H J r (.ok wk S) R) (w : Wo F H J r S) {it : L2.It} (i : Iok F it wk H J r) : R it H := p H J r it w Le.refl i
theorem si_val (hK : F.K = X.K) {f : Enm → Store → Res Val} (hl : PE X e (TT F W f)) : PI X tg e (TW F W fun en S => (f en S).bind fun v S1 => match items S1 v with
    | some xs => .ok ⟨[v], [xs], xs⟩ S1
    | none => .stk) := by
  refine ⟨fun pins s st H R I q => ?_⟩
  refine thn (hl.run pins s st H _ I (TW.ofE (g := fun _ v S1 => match items S1 v with
    | some xs => .ok ⟨[v], [xs], xs⟩ S1
    | none => .stk) q)) fun u s1 ⟨x, H1, I1, ru, en, J1, r1, S1, v, e1, w, k, p⟩ => ?_
  split at p
  · rename_i xs hx
    unfold items at hx
    cases h1 : lstI S1 v with
    | some ys =>
      rw [h1] at hx
      cases hx
      obtain ⟨a, vs, rfl, hq, t⟩ := lst_at hK w k h1
      cases ru
      obtain ⟨its, rv, pl, hz⟩ := I1.list hq
      exact wpAny_pyIter_list pl.isList (pi_one (tk := s1.toks) I1 _ (turn_list a _) ⟨_, Heap.get?_push_size _ rfl, rfl, rfl⟩ (p.here w (iok_list hK k h1)))
    | none =>
      rw [h1] at hx
      dsimp only at hx
      cases h2 : tupI v with
      | some ys =>
        rw [h2] at hx
        cases hx
        obtain ⟨a, vs, rfl, hq, t⟩ := tup_at hK w k h2
        cases ru
        obtain ⟨its, rv, pl, hz⟩ := I1.tuple hq
        exact wpAny_pyIter_tuple (show s1.heap.IsTuple a its.toArray from pl) (pi_one (tk := s1.toks) I1 _ (turn_tuple a _) ⟨_, Heap.get?_push_size _ rfl, rfl, rfl⟩ (p.here w (iok_tup hK w k h2 _ _)))
      | none =>
        rw [h2] at hx
        dsimp only at hx
        unfold strI at hx
        split at hx
        · rename_i z
          cases hx
          cases k
          obtain ⟨t, rfl⟩ := ru
          have q := p.here w (iok_str (z := z) _ _)
          cases ha : z.cps.all (· < 128)
          · exact wpAny_pyIter_wide ha (pi_one (tk := s1.toks) I1 _ (turn_str _ z t "str_iterator" (.inr rfl)) ⟨_, Heap.get?_push_size _ rfl, rfl, rfl⟩ q)
          · exact wpAny_pyIter_ascii ha (pi_one (tk := s1.toks) I1 _ (turn_str _ z t "str_ascii_iterator" (.inl rfl)) ⟨_, Heap.get?_push_size _ rfl, rfl, rfl⟩ q)
        · cases hx
  · exact p.elim
theorem inR_ok {j : Int} (h : inR j = true) : -(2 ^ 62) ≤ j ∧ j < 2 ^ 62 := by
  unfold inR at h
  simpa using h
theorem si_rng1 {f : Enm → Store → Res Val} {p : Pos} (hg : Gl X "range") (hm : X.mg "range" = none) (hx : okX e = true) (hl : PE X e (TT F W f)) : PI X tg (.Call (.Name "range" p) [e] [] pos) (TW F W fun en S => (f en S).bind rng1W) := by
  refine ⟨fun pins s st H R I q => (pi_range1 hg hm (pa_cons hl pa_nil (okX_star hx _ _)) (okX_star hx _ _)).run pins s st H R I ?_⟩
  refine TT.mono (fun u H1 ⟨en, J1, r1, S1, v, e1, w, k, p⟩ => ?_) (TW.ofE (g := fun _ => rng1W) q)
  unfold rng1W at p
  split at p
  · rename_i j
    cases k
    split at p
    · rename_i hj
      obtain ⟨h1, h2⟩ := inR_ok hj
      refine ⟨j, rfl, h1, h2, p.here w ?_⟩
      have q := iok_rng (F := F) (H0 := H1) (J0 := J1) (r0 := r1) 0 j
      rw [Int.sub_zero] at q
      exact q
    · exact p.elim
  · exact p.elim
theorem two_W {f : Enm → Store → Res Val} {g : Val → Store → Res Wk} {R : L2.It → Hp → Prop} (w : Wo F H1 J1 r1 S) (e1 : EnW F W J1 r1 en st) (p : PoW F W st H1 J1 r1 ((f en S).bind g) R) :
    TT F W f st H1 fun u2 H2 => ∃ J2 r2 S2 x2, Wo F H2 J2 r2 S2 ∧ Le H1 J1 r1 H2 J2 r2 ∧ Rep F J2 r2 x2 u2 ∧ PoW F W st H2 J2 r2 (g x2 S2) R := by
  refine ⟨en, S, J1, r1, w, e1, ?_⟩
  cases h : f en S with
  | ok x S2 =>
    rw [h] at p
    exact fun H' J' r' u2 a1 a2 a3 => ⟨J', r', S2, x, a1, a2, a3, PoW.le a2 p⟩
  | exc c fs S' => rw [h] at p; exact p
  | stk => rw [h] at p; exact p
theorem si_rng2 {f g : Enm → Store → Res Val} {p : Pos} (hg : Gl X "range") (hm : X.mg "range" = none) (hx : okX a = true) (hy : okX b = true) (ha : PE X a (TT F W f)) (hb : PE X b (TT F W g)) :
    PI X tg (.Call (.Name "range" p) [a, b] [] pos) (TW F W fun en S => (f en S).bind fun v S1 => (g en S1).bind fun u S2 => rng2W v u S2) := by
  refine ⟨fun pins s st H R I q => (pi_range2 hg hm (pa_cons ha (pa_cons hb pa_nil (okX_star hy _ _)) (okX_star hx _ _)) (by rw [okX_star hx, okX_star hy]; rfl) (okX_star hy _ _)).run pins s st H R I ?_⟩
  refine TT.mono (fun u H1 ⟨en, J1, r1, S1, v, e1, w, k, p⟩ => ?_) (TW.ofE (g := fun en v S1 => (g en S1).bind fun u S2 => rng2W v u S2) q)
  refine TT.mono (fun u2 H2 ⟨J2, r2, S2, v2, w2, l2, k2, p2⟩ => ?_) (two_W w e1 p)
  unfold rng2W at p2
  split at p2
  · rename_i i j
    cases k
    cases k2
    split at p2
    · rename_i hj
      obtain ⟨h1, h2⟩ := inR_ok hj.1
      obtain ⟨h3, h4⟩ := inR_ok hj.2
      exact ⟨_, _, rfl, ⟨h1, h2, h3, h4⟩, p2.here w2 (iok_rng _ _)⟩
    · exact p2.elim
  · exact p2.elim
theorem si_enm (hK : F.K = X.K) {f : Enm → Store → Res Val} {p tpos : Pos} {elts : List Expr} {kk : Nat} (hg : Gl X "enumerate") (hm : X.mg "enumerate" = none) (hx : okX e = true) (hl : PE X e (TT F W f)) :
    PI X (.Tuple elts kk tpos) (.Call (.Name "enumerate" p) [e] [] pos) (TW F W fun en S => (f en S).bind fun v S1 => match lstI S1 v with
    | some xs => .ok ⟨[v], [xs], xs.mapIdx fun (k : Nat) x => .tup [.int k, x]⟩ S1
    | none => .stk) := by
  refine ⟨fun pins s st H R I q => (pi_enum hg hm (pa_cons hl pa_nil (okX_star hx _ _)) (okX_star hx _ _)).run pins s st H R I ?_⟩
  refine TT.mono (fun u H1 ⟨en, J1, r1, S1, v, e1, w, k, p⟩ => ?_) (TW.ofE (g := fun _ v S1 => match lstI S1 v with
    | some xs => .ok ⟨[v], [xs], xs.mapIdx fun (k : Nat) x => .tup [.int k, x]⟩ S1
    | none => .stk) q)
  split at p
  · rename_i xs hx
    obtain ⟨a, vs, rfl, hq, t⟩ := lst_at hK w k hx
    exact ⟨a, vs, rfl, hq, p.here w (iok_enum hK k hx)⟩
  · exact p.elim
theorem si_rev (hK : F.K = X.K) {f : Enm → Store → Res Val} {p : Pos} (hg : Gl X "reversed") (hm : X.mg "reversed" = none) (hx : okX e = true) (hl : PE X e (TT F W f)) :
    PI X tg (.Call (.Name "reversed" p) [e] [] pos) (TW F W fun en S => (f en S).bind fun v S1 => revW v S1) := by
  refine ⟨fun pins s st H R I q => (RT.pi_revA hg hm hl (okX_star hx _ _)).run pins s st H R I ?_⟩
  refine TT.mono (fun u H1 ⟨en, J1, r1, S1, v, e1, w, k, p⟩ => ?_) (TW.ofE (g := fun _ v S1 => revW v S1) q)
  unfold revW at p
  split at p
  · rename_i xs hx
    obtain ⟨a, vs, rfl, hq, t⟩ := lst_at hK w k hx
    exact ⟨a, vs, rfl, .inl ⟨hq, p.here w (iok_rev hK k hx t.length)⟩⟩
  · split at p
    · rename_i xs hx
      obtain ⟨a, vs, rfl, hq, t⟩ := tup_at hK w k hx
      exact ⟨a, vs, rfl, .inr ⟨hq, p.here w (iok_revT hK k hx t.length)⟩⟩
    · exact p.elim
theorem si_zip (hK : F.K = X.K) {f g : Enm → Store → Res Val} {p tpos : Pos} {elts : List Expr} {kk : Nat} (hg : Gl X "zip") (hm : X.mg "zip" = none) (hx : okX a = true) (hy : okX b = true) (ha : PE X a (TT F W f)) (hb : PE X b (TT F W g)) :
    PI X (.Tuple elts kk tpos) (.Call (.Name "zip" p) [a, b] [] pos) (TW F W fun en S => (f en S).bind fun v S1 => (g en S1).bind fun u S2 => zipW v u S2) := by
  refine ⟨fun pins s st H R I q => (RZ.pi_zipA hg hm (pa_cons ha (pa_cons hb pa_nil (okX_star hy _ _)) (okX_star hx _ _)) (okX_star hx _ _) (okXs_any _ _ (by simp [okXs, hy]))).run pins s st H R I ?_⟩
  refine TT.mono (fun u H1 ⟨en, J1, r1, S1, v, e1, w, k, p⟩ => ?_) (TW.ofE (g := fun en v S1 => (g en S1).bind fun u S2 => zipW v u S2) q)
  refine TT.mono (fun u2 H2 ⟨J2, r2, S2, x2, w2, l2, k2, p2⟩ => ?_) (two_W w e1 p)
  unfold zipW at p2
  split at p2
  · rename_i xs ys hx hy
    obtain ⟨a, vs, rfl, hq, t⟩ := lst_at hK w2 (k.le l2) hx
    obtain ⟨b, us, rfl, hq2, t2⟩ := lst_at hK w2 k2 hy
    exact ⟨a, b, vs, us, rfl, .inl ⟨hq, hq2, p2.here w2 (iok_zip hK (k.le l2) hx k2 hy)⟩⟩
  · split at p2
    · rename_i xs ys hx hy
      obtain ⟨a, vs, rfl, hq, t⟩ := tup_at hK w2 (k.le l2) hx
      obtain ⟨b, us, rfl, hq2, t2⟩ := tup_at hK w2 k2 hy
      exact ⟨a, b, vs, us, rfl, .inr ⟨hq, hq2, p2.here w2 (iok_zipT hK (k.le l2) hx k2 hy)⟩⟩
    · exact p2.elim
end
end GW
/-! Core 12: list comprehensions. -/
namespace GW
open PySem L2
theorem wipe_keep {i : Nat} : ∀ {vs : List Nat} {st : L2.St}, i ∉ vs → (wipe st vs)[i]? = st[i]?
  | [], _, _ => rfl
  | v :: vs, st, h => by
    unfold wipe
    rw [List.getElem?_set_ne (fun z => h (by rw [z]; exact List.mem_cons_self ..)), wipe_keep fun z => h (List.mem_cons_of_mem _ z)]
theorem wipe_set {i : Nat} {y : Option V} : ∀ {vs : List Nat} {st : L2.St}, i ∈ vs → wipe (st.set i y) vs = wipe st vs
  | v :: vs, st, h => by
    unfold wipe
    by_cases hi : i ∈ vs
    · rw [wipe_set hi]
    · rcases List.mem_cons.mp h with rfl | h
      · have e : ∀ (ws : List Nat) (st : L2.St), i ∉ ws → wipe (st.set i y) ws = (wipe st ws).set i y := by
          intro ws
          induction ws with
          | nil => intro st _; rfl
          | cons w ws ih =>
            intro st hn
            unfold wipe
            rw [ih st fun z => hn (List.mem_cons_of_mem _ z), List.set_comm _ _ fun z => hn (by rw [z]; exact List.mem_cons_self ..)]
        rw [e vs st hi, List.set_set]
      · exact absurd h hi
theorem wipe_sets {ws : List Nat} : ∀ {is : List Nat} {vs : List V} {st : L2.St}, (∀ i ∈ is, i ∈ ws) → wipe (sets st is vs) ws = wipe st ws
  | [], _, _, _ => rfl
  | _ :: _, [], _, _ => rfl
  | i :: is, v :: vs, st, h => by
    show wipe (sets (st.set i (some v)) is vs) ws = _
    rw [wipe_sets fun j hj => h j (List.mem_cons_of_mem _ hj), wipe_set (h i (List.mem_cons_self ..))]
theorem wipe_idem (ws : List Nat) (st : L2.St) : wipe (wipe st ws) ws = wipe st ws := by
  have e : ∀ (vs : List Nat) (st : L2.St), (∀ i ∈ vs, i ∈ ws) → wipe (wipe st vs) ws = wipe st ws := by
    intro vs
    induction vs with
    | nil => intro st _; rfl
    | cons v vs ih =>
      intro st h
      show wipe ((wipe st vs).set v none) ws = _
      rw [wipe_set (h v (List.mem_cons_self ..)), ih st fun i hi => h i (List.mem_cons_of_mem _ hi)]
  exact e ws st fun _ h => h
theorem wipe_stT {t : Tg} {x : V} {vs : List V} {st : L2.St} {ws : List Nat} (h : ∀ i ∈ t.ixs, i ∈ ws) : wipe (stT t x vs st) ws = wipe st ws := by
  cases t with
  | one i => exact wipe_set (h i (by simp [Tg.ixs]))
  | tup is => exact wipe_sets h
section
variable {F : Fx} {X : Cx} {W : WS} {pins : List (Addr × Obj)} {s : Shared} {st : L2.St} {H J H1 J1 H0 J0 : Hp} {r r1 r0 : List Addr} {S S0 : Store} {en : Enm}
variable {a b c e tg : Expr} {es : List Expr} {pos : Pos}
variable {T : Tab} {k : Nat} {O : Om} {np : Nat → Nat} {G : Ck}
/-- an object kept aside is written -/
theorem Wo.upA (w : Wo F H J r S) (l : Le H0 J0 r0 H J r) {p : Addr} (u : HO) (h0 : H0 p = none) (hr : p ∉ r) (hj : J p = none) : Wo F (upd H p u) J r S ∧ Le H0 J0 r0 (upd H p u) J r := by
  refine ⟨⟨fun a z e => ?_, w.dis, w.nd, w.len, fun m q e => ?_⟩, ⟨fun a z e n => ?_, l.pre, l.jj, l.new, fun a e z => ?_⟩⟩
  · rw [upd_ne (ne_of_none e hj)]; exact w.sub a z e
  · obtain ⟨a, e1, k⟩ := w.obs m q e
    have ha : a ≠ p := fun z => hr (z ▸ List.mem_of_getElem? e1)
    exact ⟨a, e1, k.up (fun _ _ z => z) (List.prefix_refl _) (upd_ne ha).symm⟩
  · obtain ⟨q1, q2⟩ := l.keep a z e n
    exact ⟨by rw [upd_ne (ne_of_none e h0)]; exact q1, q2⟩
  · by_cases ha : a = p
    · subst ha; exact e h0
    · rw [upd_ne ha] at z; exact l.trk a e z
theorem aside_keep (l : Le H J r H1 J1 r1) {p : Addr} {u : HO} (h : H p = some u) (hr : p ∉ r) (hj : J p = none) : H1 p = some u ∧ p ∉ r1 ∧ J1 p = none := by
  obtain ⟨q1, q2⟩ := l.keep p u h hr
  refine ⟨q1, q2, ?_⟩
  cases z : J1 p with
  | none => rfl
  | some o =>
    rcases l.new p o z with y | y
    · rw [hj] at y; cases y
    · rw [h] at y; cases y
theorem upd_self {p : Addr} {u : HO} (h : H p = some u) : upd H p u = H := by
  funext a
  by_cases ha : a = p
  · subst ha; rw [upd_same, h]
  · rw [upd_ne ha]
theorem TW.ofL {f : Enm → Store → Res Wk} {g : Enm → Wk → Store → Res Val} {Q : VK} {R : L2.It → Hp → Prop} (p : TT F W (fun en S => (f en S).bind (g en)) st H Q)
    (k : ∀ H1 J1 r1 S1 en wk it, Wo F H1 J1 r1 S1 → EnW F W J1 r1 en st → Iok F it wk H1 J1 r1 → PoE F W st H1 J1 r1 (g en wk S1) Q → R it H1) : TW F W f st H R := by
  obtain ⟨en, S, J, r, w, e, p⟩ := p
  refine ⟨en, S, J, r, w, e, ?_⟩
  dsimp only at p
  cases h : f en S with
  | ok wk S1 =>
    rw [h] at p
    exact fun H' J' r' it a b c => k H' J' r' S1 en wk it a (e.le b) c (p.le b)
  | exc c fs S1 => rw [h] at p; exact p
  | stk => rw [h] at p; exact p
theorem tlc_ok (hK : F.K = X.K) (hsd : W.sd = []) (bb : Bool) (t : Tg) {ws : List Nat} (h1 : ∀ i ∈ t.ixs, i ∈ ws) (h2 : ∀ i ∈ ws, i ∈ t.ixs) (hn : ∀ i ∈ t.ixs, i < st.length) {fi : Enm → Store → Res Wk} {fc : Enm → Store → Res Bool} {fe : Enm → Store → Res Val} {Q : VK}
    (p : TT F W (fun en S => (fi en S).bind fun wk S1 => (lcF wk.cs wk.xs t fc fe en wk.its [] S1).bind fun ys S2 => mkL bb ys S2) st H Q) : tLc (TW F W fi) (gTg X.K t) (TB F W0 fc) (TT F W0 fe) ws st H Q := by
  refine TW.ofL (g := fun en wk S1 => (lcF wk.cs wk.xs t fc fe en wk.its [] S1).bind fun ys S2 => mkL bb ys S2) p fun H1 J1 r1 S1 en wk it w1 e1 ik p1 D hD => ?_
  replace e1 := e1.en
  rw [show W.st st = st from by rw [WS.st, hsd]; simp] at e1
  let Wm : Nat → Nat → Hp → Prop := fun i m H => ∃ J r S acc vacc, m = wk.its.length - i ∧ Wo F H J r S ∧ Le H1 J1 r1 H J r ∧ D ∉ r ∧ J D = none ∧ H D = some (.lst vacc) ∧ Reps F J r acc vacc ∧
    PoE F W st H1 J1 r1 ((lcF wk.cs wk.xs t fc fe en (wk.its.drop i) acc S).bind fun ys S2 => mkL bb ys S2) Q
  obtain ⟨wa, la, n1, n2⟩ := w1.aside (u := .lst []) hD
  refine ⟨Wm, ⟨_, J1, r1, S1, [], [], rfl, wa, la, n1, n2, upd_same, .nil, p1⟩, ?_⟩
  rintro i m H ⟨J, r, S, acc, vacc, rfl, w, l, d1, d2, d3, ta, p⟩
  cases hd : wk.its.drop i with
  | nil =>
    left
    rw [hd] at p
    unfold lcF at p
    split at p
    · rename_i lv
      refine ⟨(ik H J r S i l w lv).1 (List.drop_eq_nil_iff.mp hd), ?_⟩
      simp only [Res.bind_ok] at p
      unfold mkL at p
      split at p
      · split at p
        · obtain ⟨w3, l3⟩ := w.own l (p := D) (u := .lst vacc) (o := .lst acc) hD d1 d2 ⟨vacc, upd_same, ta.up (fun _ _ z => z) (List.prefix_append _ _)⟩
          rw [upd_self d3] at w3 l3
          exact p _ _ _ _ w3 l3 (.ref (by rw [← w.len]; simp))
        · obtain ⟨w3, l3⟩ := w.ownF l (p := D) (u := .lst vacc) hD d1 d2
          rw [upd_self d3] at w3 l3
          refine p _ _ _ _ w3 l3 (.lst upd_same (ta.up (fun a o e => ?_) (List.prefix_refl _)))
          rw [upd_ne (ne_of_none e d2)]; exact e
      · exact p.elim
    · exact p.elim
  | cons v rest =>
    right
    have hi : i < wk.its.length := by
      refine Nat.lt_of_not_le fun z => ?_
      rw [List.drop_eq_nil_of_le z] at hd
      cases hd
    have hv : wk.its[i]? = some v := by
      have := List.getElem?_drop (xs := wk.its) (i := i) (j := 0)
      rw [hd] at this
      simpa using this.symm
    have hrest : wk.its.drop (i + 1) = rest := by
      rw [← List.tail_drop, hd]
      rfl
    rw [hd] at p
    unfold lcF at p
    split at p
    · rename_i lv
      obtain ⟨hgo, hy⟩ := (ik H J r S i l w lv).2 v hv
      refine ⟨hgo, Wm (i + 1) (wk.its.length - (i + 1)), fun H' q => ⟨_, by omega, q⟩, fun x H' yl => ?_⟩
      obtain ⟨J', w', l', kx⟩ := hy x H' yl
      split at p
      · rename_i en' hp
        have ex : EnX F J' r ws en (wipe st ws) := fun j y hj ej => by
          rw [wipe_keep hj]
          exact (e1.le (l.trans l')) j y ej
        obtain ⟨vs, ex', hlen, put⟩ := put_ok hK t w' kx ex (fun j hj => by rw [wipe_length]; exact hn j hj) hp
        have hnil : (ws.filter fun j => !(t.ixs.contains j)) = [] := by
          rw [List.filter_eq_nil_iff]
          intro j hj
          simpa using h2 j hj
        rw [hnil] at ex'
        have en2 := ex'.nil
        refine put _ _ ⟨by rw [wipe_stT h1, wipe_idem], en', S, J', r, w', ⟨by rw [show W0.st (stT t x vs (wipe st ws)) = stT t x vs (wipe st ws) from by simp [WS.st, W0]]; exact en2, trivial⟩, ?_⟩
        cases hc : fc en' S with
        | stk => rw [hc] at p; exact p.elim
        | exc c fs S3 => rw [hc] at p; exact p.elim
        | ok bv S3 =>
          rw [hc] at p
          intro H3 J3 r3 w3 l3
          cases bv with
          | false =>
            rw [if_neg (by decide)]
            obtain ⟨k1, k2, k3⟩ := aside_keep (l'.trans l3) d3 d1 d2
            refine ⟨J3, r3, S3, acc, vacc, rfl, w3, (l.trans l').trans l3, k2, k3, k1, (ta.le l').le l3, ?_⟩
            rw [hrest]
            exact p
          | true =>
            rw [if_pos rfl]
            refine ⟨en', S3, J3, r3, w3, ⟨by rw [show W0.st (stT t x vs (wipe st ws)) = stT t x vs (wipe st ws) from by simp [WS.st, W0]]; exact en2.le l3, trivial⟩, ?_⟩
            simp only [Res.noX, Res.bind_ok, if_true] at p
            cases he : fe en' S3 with
            | stk => rw [he] at p; exact p.elim
            | exc c fs S3 => rw [he] at p; exact p.elim
            | ok y S4 =>
              rw [he] at p
              intro H4 J4 r4 vy w4 l4 ky
              simp only [Res.bind_ok] at p
              obtain ⟨k1, k2, k3⟩ := aside_keep ((l'.trans l3).trans l4) d3 d1 d2
              split at p
              · rename_i hz
                have tr := ((ta.le l').le l3).le l4
                refine ⟨vacc, k1, by rw [tr.length]; exact hz, ?_⟩
                obtain ⟨w5, l5⟩ := w4.upA (((l.trans l').trans l3).trans l4) (.lst (vacc ++ [vy])) hD k2 k3
                refine ⟨J4, r4, S4, acc ++ [y], vacc ++ [vy], rfl, w5, l5, k2, k3, upd_same, tr.app (.cons ky .nil), ?_⟩
                rw [hrest]
                exact p
              · exact p.elim
      · exact p.elim
    · exact p.elim
theorem blkC_ws {own : List (Str × Nat)} {t : Tg} (h : (((own.map (·.2)).all fun i => t.ixs.contains i) && (t.ixs.all fun i => (own.map (·.2)).contains i)) = true) : (∀ i ∈ t.ixs, i ∈ own.map (·.2)) ∧ ∀ i ∈ own.map (·.2), i ∈ t.ixs := by
  obtain ⟨h1, h2⟩ := Bool.and_eq_true_iff.mp h
  exact ⟨fun i hi => by simpa using List.all_eq_true.mp h2 i hi, fun i hi => by simpa using List.all_eq_true.mp h1 i hi⟩
theorem TE_len {X : Cx} {e : Expr} {t u : TE} (h : ∀ st H Q, st.length = X.N.length → u st H Q → t st H Q) (p : PE X e t) : PE X e u := ⟨fun pins s st H Q I q => p.run pins s st H Q I (h st H Q I.len q)⟩
theorem sd_lc (o : XOk F T k O np G X W) (bb : Bool) (t : Tg) {elt iter : Expr} {ifs : List Expr} {scope : Scope} {own : List (Str × Nat)} {fi : Enm → Store → Res Wk} {fc : Enm → Store → Res Bool} {fe : Enm → Store → Res Val}
    (hcm : G.calm = true) (hb : blkC G.N G.sc scope own = true) (hw : (((own.map (·.2)).all fun i => t.ixs.contains i) && (t.ixs.all fun i => (own.map (·.2)).contains i)) = true) (hx : okX iter = true) (htg : okTg (G.blk scope) t tg = true)
    (hi : PI X tg iter (TW F W fi)) (hc : ∀ X', XOk F T k O np (G.blk scope) X' W0 → PTs X' ifs (TB F W0 fc)) (he : ∀ X', XOk F T k O np (G.blk scope) X' W0 → PE X' elt (TT F W0 fe)) :
    PE X (.ListComp elt [⟨tg, iter, ifs, 0⟩] scope pos) (TT F W fun en S => (fi en S).bind fun wk S1 => (lcF wk.cs wk.xs t fc fe en wk.its [] S1).bind fun ys S2 => mkL bb ys S2) := by
  obtain ⟨h1, h2⟩ := blkC_ws hw
  have ok : BlkOk X.N X.env.scope scope own := by rw [o.hN, o.sc]; exact blkOk_by hb
  have tgo := fun s H C cl fp => okTg_ok (o.blk s H scope C cl fp) hcm htg
  refine TE_len (fun st H Q hl q => tlc_ok o.sx.hK (o.sd hcm) bb t h1 h2 (fun i hi => by rw [hl, o.hN]; exact (tgo X.s_0 (fun _ => none) 0 [] []).2 i hi) q)
    (pe_lc (o.calm hcm) o.nd' hi ok (fun s H C cl fp => (tgo s H C cl fp).1) (fun s H C cl fp => hc _ (o.blk s H scope C cl fp)) (fun s H C cl fp => he _ (o.blk s H scope C cl fp)) (okX_fold hx _))
end
end GW
/-! Core 13: calls of the text's own functions. -/
namespace GW
open PySem L2
section
variable {F : Fx} {X : Cx} {W : WS} {pins : List (Addr × Obj)} {s : Shared} {st : L2.St} {H J H1 J1 H0 J0 : Hp} {r r1 r0 : List Addr} {S S0 : Store} {en : Enm}
variable {a b c e tg : Expr} {es : List Expr} {pos : Pos}
variable {T : Tab} {k : Nat} {O : Om} {np : Nat → Nat} {G : Ck}
theorem run_g {f : Nat} {x : Str} {Q : VK} {us : List Value} {vs : List V} {xs : List Val} (h : Held1 F X.prog X.w X.K X.mg X.base k O.call np f x) (ln : ∀ f xs S, xs.length ≠ np f → O.call f xs S = .stk) (hr : Room k X.A) (gd : X.A.guards = some []) (tk : Takes X W.w)
    (I : Inv X pins st H s) (rv : Vals vs us) (w : Wo F H J r S) (t : Reps F J r xs vs) (p : PoE F W st H J r (O.call f xs S) Q) : wpAny (model X.prog X.w) X.A (PySem.call (.ref (F.fa f)) us) (EP X pins st Q) X.xe s := by
  obtain ⟨fd, ps, Fn, hb, hn⟩ := h.fn
  have hx : xs.length = np f := Classical.byContradiction fun z => by
    rw [ln f xs S z] at p; exact p.elim
  have hv : vs.length = np f := by rw [t.length, hx]
  have hu : us.length = ps.length := by rw [← rv.length, hv, hn]
  have bd : BindsTo s fd ⟨us, []⟩ (ps.zip us) := by
    have z := hb s us I.kIn (by rw [List.append_nil]; exact hu)
    rw [List.append_nil] at z
    exact z
  have sp : SpF F (np f) (O.call f) vs H Q (WE W.w st) := ⟨J, r, S, xs, w, t, hv, p.toF⟩
  refine wpAny_call (codeAny_mono (Fn.run X.A X.stack s H ⟨us, []⟩ us vs Q (WE W.w st) hr gd I.env0 bd rv sp) fun q s' hq => ?_)
  match q, hq with
  | .error e, hq => exact passAt tk st pins H s e s' I hq
  | .ok (.ret u), hq => exact I.after hq
theorem sd_call0 (o : XOk F T k O np G X W) (hcm : G.calm = true) {f : Nat} {x : Str} {p : Pos} (hf : T.fn[f]? = some x) (hg : G.glo x = true) (hd : (x == ("__debug__" : Str)) = false) :
    PE X (.Call (.Name x p) [] [] pos) (TT F W fun en S => (Res.ok [] S).bind fun xs S1 => O.call f xs S1) := by
  have h := o.fns f x hf
  exact ⟨fun pins s st H Q I ⟨en, S, J, r, w, e, q⟩ => wpAny_Call_Name_kw (ld_glob I (o.glo hg) h.hm (PySem.W.callWith_K0 I.kIn h.kp (run_g h o.ln (o.rm hcm) o.sx.gd o.tk I .nil w .nil q)) hd)⟩
theorem sd_call (o : XOk F T k O np G X W) (hcm : G.calm = true) {f : Nat} {x : Str} {p : Pos} (hf : T.fn[f]? = some x) (hg : G.glo x = true) (hd : (x == ("__debug__" : Str)) = false) (hxs : okXs (e :: es) = true) {fs : Enm → Store → Res (List Val)} (ha : PA X (e :: es) (TAA F W fs)) :
    PE X (.Call (.Name x p) (e :: es) [] pos) (TT F W fun en S => (fs en S).bind fun xs S1 => O.call f xs S1) := by
  have h := o.fns f x hf
  obtain ⟨h1, h2⟩ := Bool.and_eq_true_iff.mp hxs
  refine ⟨fun pins s st H Q I q => wpAny_Call_Name_kw (ld_glob I (o.glo hg) h.hm ?_ hd)⟩
  refine PySem.W.callWith_K (h₀ := X.base) I.ok.mod.kin h.kp (thn (ha.run pos pins s st H _ I (TT.ofA (g := fun _ xs S1 => O.call f xs S1) q)) fun us s1 ⟨vs, H1, I1, rv, en, J1, r1, S1, xs, e1, w, t, p⟩ => ⟨I1.kIn, ?_⟩) (okX_star h1 _ _) (okXs_any _ _ h2)
  exact run_g h o.ln (o.rm hcm) o.sx.gd o.tk I1 rv w t p
/-- of a local name -/
theorem sd_callv (o : XOk F T k O np G X W) (hcm : G.calm = true) {i : Nat} {x : Str} {p : Pos} (hv : G.vis i x = true) (hxs : okXs (e :: es) = true) {fs : Enm → Store → Res (List Val)} (ha : PA X (e :: es) (TAA F W fs)) :
    PE X (.Call (.Name x p) (e :: es) [] pos) (TT F W fun en S => match en[i]? with
      | some (some (.fn f)) => if f < T.fn.length then (fs en S).bind fun xs S1 => O.call f xs S1 else .stk
      | _ => .stk) := by
  obtain ⟨h1, h2⟩ := Bool.and_eq_true_iff.mp hxs
  obtain ⟨v1, v2, v3, v4⟩ := o.vis hv
  refine ⟨fun pins s st H Q I ⟨en, S, J, r, w, e, q⟩ => ?_⟩
  dsimp only at q
  split at q
  · rename_i f hen
    obtain ⟨vx, g1, g2⟩ := e.en i _ hen
    have hl : i < st.length := by rw [I.len]; exact (List.getElem?_eq_some_iff.mp v1).1
    rw [WS.st, List.getElem?_append_left hl] at g1
    cases g2
    split at q
    · rename_i hlt
      obtain ⟨y, hT⟩ : ∃ y, T.fn[f]? = some y := ⟨_, List.getElem?_eq_getElem hlt⟩
      have h := o.fns f y hT
      refine wpAny_Call_Name_kw (thn ((pe_var (pos := p) v1 v2 v3 v4).run pins s st H (fun v H1 => v = .ref (F.fa f) ∧ H1 = H) I ⟨_, g1, rfl, rfl⟩) fun u s1 ⟨v, H1, I1, ru, e1, e2⟩ => ?_)
      subst e1
      subst e2
      cases ru
      refine PySem.W.callWith_K (h₀ := X.base) I1.ok.mod.kin h.kp (thn (ha.run pos pins s1 st _ _ I1 (TT.ofA (g := fun _ xs S1 => O.call f xs S1) ⟨en, S, J, r, w, e, q⟩)) fun us s2 ⟨vs, H2, I2, rv, en2, J2, r2, S2, xs, e2, w2, t, p⟩ => ⟨I2.kIn, ?_⟩) (okX_star h1 _ _) (okXs_any _ _ h2)
      exact run_g h o.ln (o.rm hcm) o.sx.gd o.tk I2 rv w2 t p
    · exact q.elim
  · exact q.elim
end
end GW
/-! Core 14: which core text a row's expression is. -/
namespace GW
open PySem L2
def okT (x : Expr) : Bool := match x with
  | .IfExp .. => false
  | _ => true
def tyNm : List String := ["int", "bool", "str", "list", "tuple", "dict"]
theorem boot_ty {n : String} (h : n ∈ tyNm) : bootBuiltins (Str.ofString n) = some (.type n) ∧ Str.ofString n ≠ "__name__" ∧ (Str.ofString n == ("__debug__" : Str)) = false := by
  unfold tyNm at h
  simp only [List.mem_cons, List.not_mem_nil, or_false] at h
  rcases h with rfl | rfl | rfl | rfl | rfl | rfl <;> exact ⟨rfl, by decide, by decide⟩
section
variable {F : Fx} {X : Cx} {W : WS} {pins : List (Addr × Obj)} {s : Shared} {st : L2.St} {H J H1 J1 H0 J0 : Hp} {r r1 r0 : List Addr} {S S0 : Store} {en : Enm}
variable {a b c e tg : Expr} {es : List Expr} {pos : Pos}
variable {T : Tab} {k : Nat} {np : Nat → Nat} {G : Ck} {O : Om}
theorem pe_b1 {op : BoolOp} {t : TE} (h : PE X a t) : PE X (.BoolOp op [a] pos) t := ⟨fun pins s st H Q I q => h.run pins s st H Q I q⟩
theorem tst_chn (sx : Sx F X) (o p : Cop) {fa fb fc : Enm → Store → Res Val} (ha : PE X a (TT F W fa)) (hb : PE X b (TT F W fb)) (hc : PE X c (TT F W fc)) (hx : okX c = true) :
    PT X (.Compare a [o.op, p.op] [b, c] pos) (TB F W fun en S => ((fa en S).bind fun x S1 => (fb en S1).bind fun y S2 => match cmpE o x y S2 with
      | some true => (fc en S2).bind fun z S3 => optB S3 (cmpE p y z S3)
      | some false => .ok (.bl false) S2
      | none => .stk).bind truR) := by
  have hu : X.A.units + 64 < cLine := by have := sx.un; omega
  have e : TB F W (fun en S => ((fa en S).bind fun x S1 => (fb en S1).bind fun y S2 => match cmpE o x y S2 with
      | some true => (fc en S2).bind fun z S3 => optB S3 (cmpE p y z S3)
      | some false => .ok (.bl false) S2
      | none => .stk).bind truR) = TB F W (fun en S => (fa en S).bind fun x S1 => (fb en S1).bind fun y S2 => match cmpE o x y S2 with
      | some true => (fc en S2).bind fun z S3 => optT S3 (cmpE p y z S3)
      | some false => .ok false S2
      | none => .stk) := TB.cong fun en S => by
    rw [Res.bind_assoc]
    cases fa en S with
    | stk => rfl
    | exc c fs S1 => rfl
    | ok x S1 =>
      simp only [Res.bind_ok]
      rw [Res.bind_assoc]
      cases fb en S1 with
      | stk => rfl
      | exc c fs S1 => rfl
      | ok y S2 =>
        simp only [Res.bind_ok]
        cases cmpE o x y S2 with
        | none => rfl
        | some b =>
          cases b with
          | false => rfl
          | true =>
            simp only
            rw [Res.bind_assoc]
            cases fc en S2 with
            | stk => rfl
            | exc c fs S1 => rfl
            | ok z S3 =>
              simp only [Res.bind_ok]
              cases cmpE p y z S3 <;> rfl
  rw [e]
  refine ⟨fun pins s st H Q I q => PyProof.Rows.isTrue_chain (thn (ha.run pins s st H _ I (TB.ofE (g := fun en x S1 => (fb en S1).bind fun y S2 => match cmpE o x y S2 with
      | some true => (fc en S2).bind fun z S3 => optT S3 (cmpE p y z S3)
      | some false => .ok false S2
      | none => .stk) q)) fun v s1 ⟨vx, H1, I1, r1, en, J1, ro1, S1, x, e1, w1, k1, p1⟩ => PyProof.Rows.test_link ?_) (okX_mark hx p.op)⟩
  have b1 : TT F W fb st H1 fun vy H2 => ∃ J2 r2 S2 y, Wo F H2 J2 r2 S2 ∧ Le H1 J1 ro1 H2 J2 r2 ∧ Rep F J2 r2 y vy ∧ PoB F W st H2 J2 r2 (match cmpE o x y S2 with
      | some true => (fc en S2).bind fun z S3 => optT S3 (cmpE p y z S3)
      | some false => .ok false S2
      | none => .stk) Q := by
    refine ⟨en, S1, J1, ro1, w1, e1, ?_⟩
    cases h : fb en S1 with
    | stk => rw [h] at p1; exact p1
    | exc c fs S1 => rw [h] at p1; exact p1
    | ok y S2 =>
      rw [h] at p1
      exact fun H' J' r' u a1 a2 a3 => ⟨J', r', S2, y, a1, a2, a3, PoB.le a2 p1⟩
  refine thn (hb.run pins s1 st H1 _ I1 b1) fun u s2 ⟨vy, H2, I2, r2, J2, ro2, S2, y, w2, l2, k2, p2⟩ => ?_
  obtain ⟨k, hk⟩ : ∃ k, cmpE o x y S2 = some k := by
    cases h : cmpE o x y S2 with
    | none => rw [h] at p2; exact p2.elim
    | some k => exact ⟨k, rfl⟩
  refine thn (cmp_ok (W := W) sx.hK hu o I2 w2 (k1.le l2) k2 r1 r2 (Q := fun z H3 => z = .bl k ∧ ∃ J3 r3, Wo F H3 J3 r3 S2 ∧ Le H2 J2 ro2 H3 J3 r3) (by
    rw [hk]
    exact fun H' J' r' w' a1 a2 a3 => by cases a3; exact ⟨rfl, J', r', a1, a2⟩)) fun d s3 ⟨z, H3, I3, r3, e3, J3, ro3, w3, l3⟩ => ?_
  subst e3
  cases r3
  rw [hk] at p2
  refine wpAny_truthy_bool ?_
  cases k with
  | false => exact PyProof.Rows.ite_ff ⟨H3, I3, p2 H3 J3 ro3 w3 l3⟩
  | true =>
    have c1 : TT F W fc st H3 fun vz H4 => ∃ J4 r4 S4 z, Wo F H4 J4 r4 S4 ∧ Le H3 J3 ro3 H4 J4 r4 ∧ Rep F J4 r4 z vz ∧ PoB F W st H4 J4 r4 (optT S4 (cmpE p y z S4)) Q := by
      refine ⟨en, S2, J3, ro3, w3, (e1.le l2).le l3, ?_⟩
      cases h : fc en S2 with
      | stk => rw [h] at p2; exact p2
      | exc c fs S1 =>
        rw [h] at p2
        exact fun H' J' r' d ws a1 a2 a3 a4 => p2 H' J' r' d ws a1 (l3.trans a2) a3 a4
      | ok y S2 =>
        rw [h] at p2
        exact fun H' J' r' u a1 a2 a3 => ⟨J', r', _, y, a1, a2, a3, PoB.le (l3.trans a2) p2⟩
    refine PyProof.Rows.ite_tt (PyProof.Rows.test_last (thn (hc.run pins s3 st H3 _ I3 c1) fun w' s4 ⟨vz, H4, I4, r4, J4, ro4, S4, z, w4, l4, k4, p4⟩ => ?_))
    obtain ⟨k', hk'⟩ : ∃ k', cmpE p y z S4 = some k' := by
      cases h : cmpE p y z S4 with
      | none => rw [h] at p4; exact p4.elim
      | some k => exact ⟨k, rfl⟩
    rw [hk'] at p4
    refine thn (cmp_ok (W := W) sx.hK hu p I4 w4 ((k2.le l3).le l4) k4 r2 r4 (Q := fun z H5 => z = .bl k' ∧ Q k' H5) (by
      rw [hk']
      exact fun H' J' r' w' a1 a2 a3 => by cases a3; exact ⟨rfl, p4 H' J' r' a1 a2⟩)) fun d s5 ⟨z, H5, I5, r5, e5, q5⟩ => ?_
    subst e5
    cases r5
    exact wpAny_truthy_bool ⟨H5, I5, q5⟩
/-! ### the check -/
def ownOf (N : List Str) (scope : Scope) : List (Str × Nat) := scope.names.filterMap fun y => match y.2 with
  | .local => (N.findIdx? (· == y.1)).map fun i => (y.1, i)
  | .cell => (N.findIdx? (· == y.1)).map fun i => (y.1, i)
  | _ => none
def ckCst (v : Val) (x : Expr) : Bool := match v, x with
  | .int i, .Constant (.int j) _ _ => decide (i = j)
  | .bl i, .Constant (.bool j) _ _ => decide (i = j)
  | .str i, .Constant (.str j) _ _ => decide (i = j)
  | .non, .Constant .none _ _ => true
  | _, _ => false
def Tab.free (T : Tab) (G : Ck) (x : Str) : Bool := G.glo x && decide (x ∈ T.bl)
def ckTy (T : Tab) (G : Ck) (n : String) (x : Str) : Bool := decide (n ∈ tyNm) && decide (x = Str.ofString n) && T.free G x
def okWs (t : Tg) (own : List (Str × Nat)) : Bool := ((own.map (·.2)).all fun i => t.ixs.contains i) && (t.ixs.all fun i => (own.map (·.2)).contains i)
mutual
def ckE (T : Tab) : Ck → E → Expr → Bool
  | G, .cst v, x => ckCst v x
  | G, .var i, x => (match x with
    | .Name n _ => G.vis i n
    | _ => false)
  | G, .glo n v, x => (match x, v with
    | .Name m _, .fn f => decide (m = n) && decide (T.fn[f]? = some n) && G.glo n && !(n == ("__debug__" : Str))
    | .Name m _, .int i => decide (m = n) && (match T.cs.lookup n with | some (.int j) => decide (j = i) | _ => false) && G.glo n && !(n == ("__debug__" : Str))
    | .Name m _, .str i => decide (m = n) && (match T.cs.lookup n with | some (.str j) => decide (j = i) | _ => false) && G.glo n && !(n == ("__debug__" : Str))
    | _, _ => false)
  | G, .bin o a b, x => (match x with
    | .BinOp l op r _ => decide (op = o.op) && ckE T G a l && ckE T G b r
    | _ => false)
  | G, .neg a, x => (match x with
    | .UnaryOp .USub l _ => ckE T G a l
    | _ => false)
  | G, .not a, x => (match x with
    | .UnaryOp .Not l _ => ckE T G a l && okT l
    | _ => false)
  | G, .and a b, x => (match x with
    | .BoolOp .And [l, r] _ => ckE T G a l && ckE T G b r && okT l && okT r
    | .BoolOp .And (l :: r :: q :: rest) p => ckE T G a l && ckE T G b (.BoolOp .And (r :: q :: rest) p) && okT l
    | _ => false)
  | G, .or a b, x => (match x with
    | .BoolOp .Or [l, r] _ => ckE T G a l && ckE T G b r && okT l && okT r
    | .BoolOp .Or (l :: r :: q :: rest) p => ckE T G a l && ckE T G b (.BoolOp .Or (r :: q :: rest) p) && okT l
    | _ => false)
  | G, .cmp o a b, x => (match x with
    | .Compare l [op] [r] _ => decide (op = o.op) && ckE T G a l && ckE T G b r && okX r
    | _ => false)
  | G, .chn o p a b c, x => (match x with
    | .Compare l [op, op'] [r, q] _ => decide (op = o.op) && decide (op' = p.op) && ckE T G a l && ckE T G b r && ckE T G c q && okX q
    | _ => false)
  | G, .ife c a b, x => (match x with
    | .IfExp t l r _ => ckE T G c t && ckE T G a l && ckE T G b r && okT t
    | _ => false)
  | G, .isi a ts, x => (match x, ts with
    | .Call (.Name m _) [l, .Name y _] [] _, [n] => decide (m = "isinstance") && T.free G m && ckE T G a l && okX l && ckTy T G n y
    | .Call (.Name m _) [l, .Tuple [.Name y _, .Name y' _] _ _] [] _, [n, n'] => decide (m = "isinstance") && T.free G m && ckE T G a l && okX l && ckTy T G n y && ckTy T G n' y'
    | _, _ => false)
  | G, .idx a i, x => (match x with
    | .Subscript l r _ => ckE T G a l && ckE T G i r && okX r
    | _ => false)
  | G, .slc a lo hi, x => (match x with
    | .Subscript l (.Slice p q none _) _ => ckE T G a l && ckP T G lo p && ckP T G hi q
    | _ => false)
  | G, .slcR a lo hi, x => (match x with
    | .Subscript l (.Slice p q none _) _ => ckE T G a l && ckP T G lo p && ckP T G hi q
    | _ => false)
  | G, .tpd es, x => (match x with
    | .Tuple xs _ _ => ckS T G es xs
    | _ => false)
  | G, .lsd b es, x => (match x with
    | .List xs _ => ckS T G es xs
    | _ => false)
  | G, .dcd ks vs, x => (match x, ks, vs with
    | .Dict [] [] _, .nil, .nil => true
    | .Dict [some p] [q] _, .cons kk .nil, .cons vv .nil => ckE T G kk p && ckE T G vv q
    | _, _, _ => false)
  | G, .blt f es, x => (match x with
    | .Call (.Name m _) (y :: ys) [] _ => decide (m = f.nm) && T.free G m && okXs (y :: ys) && ckS T G es (y :: ys) && G.calm
    | _ => false)
  | G, .call f es, x => (match x with
    | .Call (.Name m _) [] [] _ => decide (T.fn[f]? = some m) && G.glo m && !(m == ("__debug__" : Str)) && ckS T G es [] && G.calm
    | .Call (.Name m _) (y :: ys) [] _ => decide (T.fn[f]? = some m) && G.glo m && !(m == ("__debug__" : Str)) && okXs (y :: ys) && ckS T G es (y :: ys) && G.calm
    | _ => false)
  | G, .callv i es, x => (match x with
    | .Call (.Name m _) (y :: ys) [] _ => G.vis i m && okXs (y :: ys) && ckS T G es (y :: ys) && G.calm
    | _ => false)
  | G, .mth m o es, x => (match x with
    | .Call (.Attribute l n ap) [] [] p => decide (n = m.nm) && okA l && (ap.endLine == p.line) && ckE T G o l && ckS T G es []
    | .Call (.Attribute l n ap) (y :: ys) [] p => decide (n = m.nm) && okA l && (ap.endLine == p.line) && ckE T G o l && okXs (y :: ys) && decide ((y :: ys).length < 30) && ckS T G es (y :: ys)
    | _ => false)
  | G, .lc b t it cs e, x => (match x with
    | .ListComp elt [⟨tg, iter, ifs, 0⟩] scope _ => G.calm && blkC G.N G.sc scope (ownOf G.N scope) && okWs t (ownOf G.N scope) && okX iter && okTg (G.blk scope) t tg && ckI T G it tg iter && ckC T (G.blk scope) cs ifs && ckE T (G.blk scope) e elt
    | _ => false)
  | G, .efl p c j, x => (match x with
    | .Attribute (.Name y _) f _ => decide (p = G.N.length) && (match G.ex with
      | some (i, c') => decide (c' = c) && G.vis i y && decide ((T.cf.getD c [])[j]? = some f) && decide ((T.cf.getD c []).Nodup)
      | none => false)
    | _ => false)
def ckS (T : Tab) : Ck → Es → List Expr → Bool
  | G, .nil, xs => (match xs with
    | [] => true
    | _ => false)
  | G, .cons e es, xs => (match xs with
    | x :: xs => okX x && ckE T G e x && ckS T G es xs
    | _ => false)
def ckP (T : Tab) : Ck → Po → Option Expr → Bool
  | G, .no, x => (match x with
    | none => true
    | _ => false)
  | G, .yes e, x => (match x with
    | some y => ckE T G e y
    | _ => false)
/-- the tests of a comprehension: none or one -/
def ckC (T : Tab) : Ck → Es → List Expr → Bool
  | G, .nil, xs => (match xs with
    | [] => true
    | _ => false)
  | G, .cons e es, xs => (match xs, es with
    | [x], .nil => ckE T G e x && okT x
    | _, _ => false)
def ckI (T : Tab) : Ck → It → Expr → Expr → Bool
  | G, .val e, tg, x => ckE T G e x
  | G, .rng1 e, tg, x => (match x with
    | .Call (.Name m _) [y] [] _ => decide (m = "range") && T.free G m && okX y && ckE T G e y
    | _ => false)
  | G, .rng2 a b, tg, x => (match x with
    | .Call (.Name m _) [y, z] [] _ => decide (m = "range") && T.free G m && okX y && okX z && ckE T G a y && ckE T G b z
    | _ => false)
  | G, .enm e, tg, x => (match x, tg with
    | .Call (.Name m _) [y] [] _, .Tuple _ _ _ => decide (m = "enumerate") && T.free G m && okX y && ckE T G e y
    | _, _ => false)
  | G, .zip a b, tg, x => (match x, tg with
    | .Call (.Name m _) [y, z] [] _, .Tuple _ _ _ => decide (m = "zip") && T.free G m && okX y && okX z && ckE T G a y && ckE T G b z
    | _, _ => false)
  | G, .rev e, tg, x => (match x with
    | .Call (.Name m _) [y] [] _ => decide (m = "reversed") && T.free G m && okX y && ckE T G e y
    | _ => false)
end
theorem XOk.free (o : XOk F T k O np G X W) {x : Str} (h : T.free G x = true) : Gl X x ∧ X.mg x = none := by
  obtain ⟨h1, h2⟩ := Bool.and_eq_true_iff.mp h
  exact ⟨o.glo h1, o.bl x (by simpa using h2)⟩
structure EOk (F : Fx) (X : Cx) (W : WS) (O : Om) (e : E) (x : Expr) : Prop where
  pe : PE X x (TT F W fun en S => evE O e en S)
  pt : okT x = true → PT X x (TB F W fun en S => (evE O e en S).bind truR)
/-- a value's truth, where no special rule is -/
theorem EOk.of (o : XOk F T k O np G X W) {e : E} {x : Expr} (h : okTst x = true) (p : PE X x (TT F W fun en S => evE O e en S)) : EOk F X W O e x :=
  ⟨p, fun _ => tst_val o.sx.hK p fun wh => okTst_is h _ wh⟩
end
end GW
/-! Core 15: the check is right (expressions). -/
namespace GW
open PySem L2
section
variable {F : Fx} {T : Tab} {k : Nat} {np : Nat → Nat} {O : Om}
theorem okT_tst {x : Expr} (h : okT x = true) : okTst x = true ∨ (∃ a p, x = .UnaryOp .Not a p) ∨ (∃ o vs p, x = .BoolOp o vs p) ∨ ∃ a os cs p, x = .Compare a os cs p := by
  cases x <;> first
    | exact .inl rfl
    | (cases h; done)
    | exact .inr (.inr (.inl ⟨_, _, _, rfl⟩))
    | exact .inr (.inr (.inr ⟨_, _, _, _, rfl⟩))
    | (rename_i op a p; cases op <;> first | exact .inl rfl | exact .inr (.inl ⟨_, _, rfl⟩))
theorem glo_ok {G : Ck} {X : Cx} {W : WS} (o : XOk F T k O np G X W) {n m : Str} {f : Nat} {pos : Pos} (h : (decide (m = n) && decide (T.fn[f]? = some n) && G.glo n && !(n == ("__debug__" : Str))) = true) : PE X (.Name m pos) (TT F W fun _ S => .ok (.fn f) S) := by
  simp only [Bool.and_eq_true, decide_eq_true_eq, Bool.not_eq_true'] at h
  obtain ⟨⟨⟨rfl, h2⟩, h3⟩, h4⟩ := h
  exact sd_glo (v := .fn f) (vx := .ref (F.fa f)) (o.glo h3) (o.fns f _ h2).hm rfl (fun _ _ => .fn f) h4
theorem glo_ok_i {G : Ck} {X : Cx} {W : WS} (o : XOk F T k O np G X W) {n m : Str} {i : Int} {pos : Pos} (h : (decide (m = n) && (match T.cs.lookup n with | some (.int j) => decide (j = i) | _ => false) && G.glo n && !(n == ("__debug__" : Str))) = true) : PE X (.Name m pos) (TT F W fun _ S => .ok (.int i) S) := by
  simp only [Bool.and_eq_true, decide_eq_true_eq, Bool.not_eq_true'] at h
  obtain ⟨⟨⟨rfl, h2⟩, h3⟩, h4⟩ := h
  split at h2
  · rename_i j e
    have h2' : j = i := of_decide_eq_true h2
    subst h2'
    obtain ⟨t, ht⟩ : ∃ t, X.mg m = some (.int j t) := o.cst _ _ e
    exact sd_glo (v := .int j) (vx := .int j) (o.glo h3) ht ⟨t, rfl⟩ (fun _ _ => .int j) h4
  · cases h2
theorem glo_ok_s {G : Ck} {X : Cx} {W : WS} (o : XOk F T k O np G X W) {n m : Str} {i : Str} {pos : Pos} (h : (decide (m = n) && (match T.cs.lookup n with | some (.str j) => decide (j = i) | _ => false) && G.glo n && !(n == ("__debug__" : Str))) = true) : PE X (.Name m pos) (TT F W fun _ S => .ok (.str i) S) := by
  simp only [Bool.and_eq_true, decide_eq_true_eq, Bool.not_eq_true'] at h
  obtain ⟨⟨⟨rfl, h2⟩, h3⟩, h4⟩ := h
  split at h2
  · rename_i j e
    have h2' : j = i := of_decide_eq_true h2
    subst h2'
    obtain ⟨t, ht⟩ : ∃ t, X.mg m = some (.str j t) := o.cst _ _ e
    exact sd_glo (v := .str j) (vx := .str j) (o.glo h3) ht ⟨t, rfl⟩ (fun _ _ => .str j) h4
  · cases h2
theorem cst_ok {X : Cx} {W : WS} {v : Val} {x : Expr} (h : ckCst v x = true) : PE X x (TT F W fun _ S => .ok v S) ∧ okTst x = true := by
  unfold ckCst at h
  split at h
  · cases of_decide_eq_true h; exact ⟨sd_int, rfl⟩
  · cases of_decide_eq_true h; exact ⟨sd_bl, rfl⟩
  · cases of_decide_eq_true h; exact ⟨sd_str, rfl⟩
  · exact ⟨sd_non, rfl⟩
  · cases h
theorem ckTy_ok {G : Ck} {X : Cx} {W : WS} (o : XOk F T k O np G X W) {n : String} {x : Str} (h : ckTy T G n x = true) :
    x = Str.ofString n ∧ Gl X x ∧ X.mg x = none ∧ bootBuiltins x = some (.type n) ∧ x ≠ "__name__" ∧ (x == ("__debug__" : Str)) = false := by
  unfold ckTy at h
  simp only [Bool.and_eq_true, decide_eq_true_eq] at h
  obtain ⟨⟨h1, h2⟩, h3⟩ := h
  obtain ⟨g1, g2⟩ := o.free h3
  obtain ⟨b1, b2, b3⟩ := boot_ty h1
  subst h2
  exact ⟨rfl, g1, g2, b1, b2, b3⟩
/-- what is asked of a part -/
abbrev OkE (F : Fx) (T : Tab) (k : Nat) (np : Nat → Nat) (O : Om) (e : E) : Prop := ∀ {G : Ck} {X : Cx} {W : WS} {x : Expr}, XOk F T k O np G X W → ckE T G e x = true → EOk F X W O e x
abbrev OkS (F : Fx) (T : Tab) (k : Nat) (np : Nat → Nat) (O : Om) (es : Es) : Prop := ∀ {G : Ck} {X : Cx} {W : WS} {xs : List Expr}, XOk F T k O np G X W → ckS T G es xs = true → PA X xs (TAA F W fun en S => evs O es en S)
abbrev OkP (F : Fx) (T : Tab) (k : Nat) (np : Nat → Nat) (O : Om) (p : Po) : Prop := ∀ {G : Ck} {X : Cx} {W : WS} {x : Option Expr}, XOk F T k O np G X W → ckP T G p x = true → PO X x (TP F W fun en S => evP O p en S)
abbrev OkC (F : Fx) (T : Tab) (k : Nat) (np : Nat → Nat) (O : Om) (es : Es) : Prop := ∀ {G : Ck} {X : Cx} {W : WS} {xs : List Expr}, XOk F T k O np G X W → ckC T G es xs = true → PTs X xs (TB F W fun en S => evC O es en S)
abbrev OkI (F : Fx) (T : Tab) (k : Nat) (np : Nat → Nat) (O : Om) (i : It) : Prop := ∀ {G : Ck} {X : Cx} {W : WS} {tg x : Expr}, XOk F T k O np G X W → ckI T G i tg x = true → PI X tg x (TW F W fun en S => evI O i en S)
theorem ok_bin (o : Bop) {a b : E} (ha : OkE F T k np O a) (hb : OkE F T k np O b) : OkE F T k np O (.bin o a b) := fun {G X W x} xo h => by
  unfold ckE at h
  split at h
  · simp only [Bool.and_eq_true, decide_eq_true_eq] at h
    obtain ⟨⟨rfl, h1⟩, h2⟩ := h
    exact .of xo rfl (sd_bin xo.sx.hK o (ha xo h1).pe (hb xo h2).pe)
  · cases h
theorem ok_neg {a : E} (ha : OkE F T k np O a) : OkE F T k np O (.neg a) := fun {G X W x} xo h => by
  unfold ckE at h
  split at h
  · exact .of xo rfl (sd_neg (ha xo h).pe)
  · cases h
theorem ok_not {a : E} (ha : OkE F T k np O a) : OkE F T k np O (.not a) := fun {G X W x} xo h => by
  unfold ckE at h
  split at h
  · rename_i l p
    simp only [Bool.and_eq_true] at h
    have q := ha xo h.1
    refine ⟨sd_notT xo.sx.hK q.pe, fun _ => ?_⟩
    have z := tst_not (pos := p) (q.pt h.2)
    rw [← tb_not] at z
    exact z
  · cases h
theorem pw_of {X : Cx} {op : BoolOp} {vs : List Expr} {p : Pos} {t : L2.TT} (h : PT X (.BoolOp op vs p) t) : PW X (.BoolOp op vs p) t := ⟨fun wh pins s st H Q I q => by
  have z := h.run pins s st H Q I q
  cases op <;> cases vs <;> exact z⟩
theorem ok_and {a b : E} (ha : OkE F T k np O a) (hb : OkE F T k np O b) : OkE F T k np O (.and a b) := fun {G X W x} xo h => by
  unfold ckE at h
  split at h
  · rename_i l r p
    simp only [Bool.and_eq_true] at h
    obtain ⟨⟨⟨h1, h2⟩, h3⟩, h4⟩ := h
    have qa := ha xo h1
    have qb := hb xo h2
    refine ⟨sd_andT xo.sx.hK qa.pe (pe_b1 qb.pe), fun _ => ?_⟩
    have z := tst_and (qa.pt h3) (pw_and1 (pos := p) (qb.pt h4))
    rw [← tb_and] at z
    exact z.pt
  · simp only [Bool.and_eq_true] at h
    obtain ⟨⟨h1, h2⟩, h3⟩ := h
    have qa := ha xo h1
    have qb := hb xo h2
    refine ⟨sd_andT xo.sx.hK qa.pe qb.pe, fun _ => ?_⟩
    have z := tst_and (qa.pt h3) (pw_of (qb.pt rfl))
    rw [← tb_and] at z
    exact z.pt
  · cases h
theorem ok_or {a b : E} (ha : OkE F T k np O a) (hb : OkE F T k np O b) : OkE F T k np O (.or a b) := fun {G X W x} xo h => by
  unfold ckE at h
  split at h
  · rename_i l r p
    simp only [Bool.and_eq_true] at h
    obtain ⟨⟨⟨h1, h2⟩, h3⟩, h4⟩ := h
    have qa := ha xo h1
    have qb := hb xo h2
    refine ⟨sd_orT xo.sx.hK qa.pe (pe_b1 qb.pe), fun _ => ?_⟩
    have z := tst_or (qa.pt h3) (pw_or1 (pos := p) (qb.pt h4))
    rw [← tb_or] at z
    exact z.pt
  · simp only [Bool.and_eq_true] at h
    obtain ⟨⟨h1, h2⟩, h3⟩ := h
    have qa := ha xo h1
    have qb := hb xo h2
    refine ⟨sd_orT xo.sx.hK qa.pe qb.pe, fun _ => ?_⟩
    have z := tst_or (qa.pt h3) (pw_of (qb.pt rfl))
    rw [← tb_or] at z
    exact z.pt
  · cases h
theorem Sx.u64 {X : Cx} (sx : Sx F X) : X.A.units + 64 < cLine := by have := sx.un; omega
theorem ok_cmp (o : Cop) {a b : E} (ha : OkE F T k np O a) (hb : OkE F T k np O b) : OkE F T k np O (.cmp o a b) := fun {G X W x} xo h => by
  unfold ckE at h
  split at h
  · rename_i l op r p
    simp only [Bool.and_eq_true, decide_eq_true_eq] at h
    obtain ⟨⟨⟨rfl, h1⟩, h2⟩, h3⟩ := h
    refine ⟨sd_cmp xo.sx.hK xo.sx.u64 o (ha xo h1).pe (hb xo h2).pe (okX_mark h3 _), fun _ => ?_⟩
    have z := tst_cmp (pos := p) xo.sx.hK xo.sx.u64 o (ha xo h1).pe (hb xo h2).pe (okX_mark h3 _)
    rw [← tb_cmp] at z
    exact z
  · cases h
theorem ok_chn (o p : Cop) {a b c : E} (ha : OkE F T k np O a) (hb : OkE F T k np O b) (hc : OkE F T k np O c) : OkE F T k np O (.chn o p a b c) := fun {G X W x} xo h => by
  unfold ckE at h
  split at h
  · simp only [Bool.and_eq_true, decide_eq_true_eq] at h
    obtain ⟨⟨⟨⟨⟨rfl, rfl⟩, h1⟩, h2⟩, h3⟩, h4⟩ := h
    exact ⟨sd_chn xo.sx o p (ha xo h1).pe (hb xo h2).pe (hc xo h3).pe h4, fun _ => tst_chn xo.sx o p (ha xo h1).pe (hb xo h2).pe (hc xo h3).pe h4⟩
  · cases h
theorem ok_ife {c a b : E} (hc : OkE F T k np O c) (ha : OkE F T k np O a) (hb : OkE F T k np O b) : OkE F T k np O (.ife c a b) := fun {G X W x} xo h => by
  unfold ckE at h
  split at h
  · simp only [Bool.and_eq_true] at h
    obtain ⟨⟨⟨h1, h2⟩, h3⟩, h4⟩ := h
    exact ⟨sd_ifeT xo.sx.hK ((hc xo h1).pt h4) (ha xo h2).pe (hb xo h3).pe, fun z => nomatch z⟩
  · cases h
theorem ok_isi {a : E} (ts : List String) (ha : OkE F T k np O a) : OkE F T k np O (.isi a ts) := fun {G X W x} xo h => by
  unfold ckE at h
  split at h
  · simp only [Bool.and_eq_true, decide_eq_true_eq] at h
    obtain ⟨⟨⟨⟨rfl, h2⟩, h3⟩, h4⟩, h5⟩ := h
    obtain ⟨g1, g2⟩ := xo.free h2
    obtain ⟨rfl, t1, t2, t3, t4, t5⟩ := ckTy_ok xo h5
    exact .of xo rfl (sd_isi1 xo.sx rfl g1 g2 t1 t2 t3 t4 t5 h4 (ha xo h3).pe)
  · simp only [Bool.and_eq_true, decide_eq_true_eq] at h
    obtain ⟨⟨⟨⟨⟨rfl, h2⟩, h3⟩, h4⟩, h5⟩, h6⟩ := h
    obtain ⟨g1, g2⟩ := xo.free h2
    obtain ⟨e1, t1, t2, t3, t4, t5⟩ := ckTy_ok xo h5
    obtain ⟨e2, u1, u2, u3, u4, u5⟩ := ckTy_ok xo h6
    exact .of xo rfl (sd_isi2 xo.sx g1 g2 t1 t2 t3 t4 t5 u1 u2 u3 u4 u5 h4 (ha xo h3).pe)
  · cases h
theorem ok_idx {a b : E} (ha : OkE F T k np O a) (hb : OkE F T k np O b) : OkE F T k np O (.idx a b) := fun {G X W x} xo h => by
  unfold ckE at h
  split at h
  · simp only [Bool.and_eq_true] at h
    obtain ⟨⟨h1, h2⟩, h3⟩ := h
    exact .of xo rfl (sd_idx xo.sx.hK (ha xo h1).pe (hb xo h2).pe h3)
  · cases h
theorem ok_slc {a : E} {lo hi : Po} (ha : OkE F T k np O a) (hl : OkP F T k np O lo) (hh : OkP F T k np O hi) : OkE F T k np O (.slc a lo hi) := fun {G X W x} xo h => by
  unfold ckE at h
  split at h
  · simp only [Bool.and_eq_true] at h
    obtain ⟨⟨h1, h2⟩, h3⟩ := h
    exact .of xo rfl (sd_slc xo.sx.hK (ha xo h1).pe (hl xo h2) (hh xo h3))
  · cases h
theorem ok_slcR {a : E} {lo hi : Po} (ha : OkE F T k np O a) (hl : OkP F T k np O lo) (hh : OkP F T k np O hi) : OkE F T k np O (.slcR a lo hi) := fun {G X W x} xo h => by
  unfold ckE at h
  split at h
  · simp only [Bool.and_eq_true] at h
    obtain ⟨⟨h1, h2⟩, h3⟩ := h
    exact .of xo rfl (sd_slcR xo.sx.hK (ha xo h1).pe (hl xo h2) (hh xo h3))
  · cases h
theorem ok_tpd {es : Es} (hs : OkS F T k np O es) : OkE F T k np O (.tpd es) := fun {G X W x} xo h => by
  unfold ckE at h
  split at h
  · exact .of xo rfl (sd_tup (hs xo h))
  · cases h
theorem ok_lsd (b : Bool) {es : Es} (hs : OkS F T k np O es) : OkE F T k np O (.lsd b es) := fun {G X W x} xo h => by
  unfold ckE at h
  split at h
  · exact .of xo rfl (sd_lst (hs xo h))
  · cases h
theorem ok_blt (f : Blt) {es : Es} (hs : OkS F T k np O es) : OkE F T k np O (.blt f es) := fun {G X W x} xo h => by
  unfold ckE at h
  split at h
  · simp only [Bool.and_eq_true, decide_eq_true_eq] at h
    obtain ⟨⟨⟨⟨rfl, h2⟩, h3⟩, h4⟩, h5⟩ := h
    obtain ⟨g1, g2⟩ := xo.free h2
    exact .of xo rfl (sd_blt xo.sx (xo.calm h5) f g1 g2 (by simpa using h3) (hs xo h4))
  · cases h
theorem evs_nil {es : Es} {G : Ck} (h : ckS T G es [] = true) : es = .nil := by
  cases es with
  | nil => rfl
  | cons e es => unfold ckS at h; cases h
theorem ok_call (f : Nat) {es : Es} (hs : OkS F T k np O es) : OkE F T k np O (.call f es) := fun {G X W x} xo h => by
  unfold ckE at h
  split at h
  · simp only [Bool.and_eq_true, decide_eq_true_eq, Bool.not_eq_true'] at h
    obtain ⟨⟨⟨⟨h1, h2⟩, h3⟩, h4⟩, h5⟩ := h
    cases evs_nil h4
    exact .of xo rfl (sd_call0 xo h5 h1 h2 h3)
  · simp only [Bool.and_eq_true, decide_eq_true_eq, Bool.not_eq_true'] at h
    obtain ⟨⟨⟨⟨⟨h1, h2⟩, h3⟩, h4⟩, h5⟩, h6⟩ := h
    exact .of xo rfl (sd_call xo h6 h1 h2 h3 (by simpa using h4) (hs xo h5))
  · cases h
theorem ok_callv (hO : O.nf = T.fn.length) (i : Nat) {es : Es} (hs : OkS F T k np O es) : OkE F T k np O (.callv i es) := fun {G X W x} xo h => by
  unfold ckE at h
  split at h
  · rename_i m p1 y ys p2
    simp only [Bool.and_eq_true] at h
    obtain ⟨⟨⟨h1, h2⟩, h3⟩, h4⟩ := h
    have z := sd_callv (pos := p2) (p := p1) xo h4 h1 (by simpa using h2) (hs xo h3)
    rw [← hO] at z
    exact .of xo rfl z
  · cases h
theorem ok_mth (m : Mth) {a : E} {es : Es} (ha : OkE F T k np O a) (hs : OkS F T k np O es) : OkE F T k np O (.mth m a es) := fun {G X W x} xo h => by
  unfold ckE at h
  split at h
  · simp only [Bool.and_eq_true, decide_eq_true_eq] at h
    obtain ⟨⟨⟨⟨rfl, h1⟩, h2⟩, h3⟩, h4⟩ := h
    cases evs_nil h4
    exact .of xo rfl (sd_mth0 m h1 h2 (ha xo h3).pe)
  · simp only [Bool.and_eq_true, decide_eq_true_eq] at h
    obtain ⟨⟨⟨⟨⟨⟨rfl, h1⟩, h2⟩, h3⟩, h4⟩, h5⟩, h6⟩ := h
    exact .of xo rfl (sd_mth m h1 h2 (by simpa using h4) h5 (ha xo h3).pe (hs xo h6))
  · cases h
theorem ok_lc (b : Bool) (t : Tg) {it : It} {cs : Es} {e : E} (hi : OkI F T k np O it) (hc : OkC F T k np O cs) (he : OkE F T k np O e) : OkE F T k np O (.lc b t it cs e) := fun {G X W x} xo h => by
  unfold ckE at h
  split at h
  · simp only [Bool.and_eq_true] at h
    obtain ⟨⟨⟨⟨⟨⟨⟨h1, h2⟩, h3⟩, h4⟩, h5⟩, h6⟩, h7⟩, h8⟩ := h
    exact .of xo rfl (sd_lc xo b t h1 h2 (by unfold okWs at h3; simpa using h3) h4 h5 (hi xo h6) (fun X' xo' => hc xo' h7) fun X' xo' => (he xo' h8).pe)
  · cases h
theorem ok_dcd {ks vs : Es} (hk : ∀ e, ks = .cons e .nil → OkE F T k np O e) (hv : ∀ e, vs = .cons e .nil → OkE F T k np O e) : OkE F T k np O (.dcd ks vs) := fun {G X W x} xo h => by
  unfold ckE at h
  split at h
  · exact .of xo rfl sd_dic0
  · rename_i pp qq pos kk vv
    simp only [Bool.and_eq_true] at h
    obtain ⟨h1, h2⟩ := h
    have z := sd_dic1 (pos := pos) (hk _ rfl xo h1).pe (hv _ rfl xo h2).pe
    refine .of xo rfl ?_
    have e : (fun (en : Enm) (S : Store) => (evE O kk en S).bind fun k S1 => (evE O vv en S1).bind fun v S2 => mkD [k] [v] S2) = fun en S => evE O (.dcd (.cons kk .nil) (.cons vv .nil)) en S := by
      funext en S
      show _ = (evs O (.cons kk .nil) en S).bind fun ks S1 => (evs O (.cons vv .nil) en S1).bind fun vs S2 => mkD ks vs S2
      show _ = ((evE O kk en S).bind fun x S1 => (Res.ok [] S1).bind fun xs S2 => Res.ok (x :: xs) S2).bind fun ks S1 => ((evE O vv en S1).bind fun x S1 => (Res.ok [] S1).bind fun xs S2 => Res.ok (x :: xs) S2).bind fun vs S2 => mkD ks vs S2
      rw [Res.bind_assoc]
      cases evE O kk en S with
      | stk => rfl
      | exc c fs S1 => rfl
      | ok x S1 =>
        simp only [Res.bind_ok]
        rw [Res.bind_assoc]
        cases evE O vv en S1 <;> rfl
    rw [← e]
    exact z
  · cases h
theorem ok_cst (v : Val) : OkE F T k np O (.cst v) := fun {G X W x} xo h => by
    unfold ckE at h
    exact .of xo (cst_ok (X := X) (F := F) (W := W) h).2 (cst_ok h).1
theorem ok_var (i : Nat) : OkE F T k np O (.var i) := fun {G X W x} xo h => by
    unfold ckE at h
    split at h
    · obtain ⟨v1, v2, v3, v4⟩ := xo.vis h
      exact .of xo rfl (sd_var v1 v2 v3 v4)
    · cases h
theorem ok_glo (n : Str) (v : Val) : OkE F T k np O (.glo n v) := fun {G X W x} xo h => by
    unfold ckE at h
    split at h
    · exact .of xo rfl (glo_ok xo h)
    · exact .of xo rfl (glo_ok_i xo h)
    · exact .of xo rfl (glo_ok_s xo h)
    · cases h
theorem look_zip {fs : List Str} {ws : List V} {f : Str} {v : V} : ∀ {j : Nat}, fs.Nodup → fs[j]? = some f → ws[j]? = some v → (fs.zip ws).lookup f = some v := by
  induction fs generalizing ws with
  | nil => intro j _ h _; simp at h
  | cons g fs ih =>
    intro j nd h1 h2
    cases ws with
    | nil => simp at h2
    | cons u ws =>
      rw [List.zip_cons_cons, List.lookup_cons]
      cases j with
      | zero =>
        simp at h1 h2
        subst h1
        subst h2
        simp
      | succ j =>
        have hm : f ∈ fs := List.mem_of_getElem? (by simpa using h1)
        have hne : (f == g) = false := by
          rw [beq_eq_false_iff_ne]
          intro z
          exact (List.nodup_cons.mp nd).1 (z ▸ hm)
        rw [hne]
        exact ih (List.nodup_cons.mp nd).2 (by simpa using h1) (by simpa using h2)
theorem ok_efl (p c j : Nat) : OkE F T k np O (.efl p c j) := fun {G X W x} xo h => by
  unfold ckE at h
  split at h
  · rename_i y p1 f p2
    simp only [Bool.and_eq_true, decide_eq_true_eq] at h
    obtain ⟨rfl, h⟩ := h
    split at h
    · rename_i i c' hex
      simp only [Bool.and_eq_true, decide_eq_true_eq] at h
      obtain ⟨⟨⟨rfl, h2⟩, h3⟩, h4⟩ := h
      obtain ⟨dd, hsd, rule⟩ := xo.xat i c' hex
      obtain ⟨v1, v2, v3, v4⟩ := xo.vis h2
      rw [← xo.cf] at h3 h4
      refine .of xo rfl ⟨fun pins s st H Q I ⟨en, S, J, r, w, e, q⟩ => (rule y f p2 p1 v1 v2 v3 v4 (List.mem_of_getElem? h3)).run pins s st H Q I ⟨e.iv, ?_⟩⟩
      replace q : PoE F W st H J r (match en[G.N.length]? with
        | some (some (.exc c fs)) => if c = c' then oV fs[j]? S else .stk
        | _ => .stk) Q := q
      split at q
      · rename_i c fs hen
        split at q
        · rename_i hc
          subst hc
          obtain ⟨v, hv, q⟩ := oV_some q
          obtain ⟨vx, g1, g2⟩ := e.en _ _ hen
          rw [WS.st, hsd, List.getElem?_append_right (by rw [I.len, xo.hN]; exact Nat.le_refl _)] at g1
          have hz : G.N.length - st.length = 0 := by rw [I.len, xo.hN, Nat.sub_self]
          rw [hz] at g1
          cases g1
          cases g2 with
          | exc hJ t =>
            obtain ⟨vy, k1, k2⟩ := t.get hv
            exact ⟨_, vy, w.sub _ _ hJ, look_zip h4 h3 k1, q.stay w k2⟩
        · exact q.elim
      · exact q.elim
    · cases h
  · cases h
theorem ok_snil : OkS F T k np O .nil := fun {G X W xs} xo h => by
    unfold ckS at h
    split at h
    · exact sa_nil
    · cases h
theorem ok_scons {e : E} {es : Es} (he : OkE F T k np O e) (hs : OkS F T k np O es) : OkS F T k np O (.cons e es) := fun {G X W xs} xo h => by
    unfold ckS at h
    split at h
    · simp only [Bool.and_eq_true] at h
      obtain ⟨⟨h1, h2⟩, h3⟩ := h
      exact sa_cons h1 (he xo h2).pe (hs xo h3)
    · cases h
theorem ok_no : OkP F T k np O .no := fun {G X W x} xo h => by
    unfold ckP at h
    split at h
    · exact po_no
    · cases h
theorem ok_yes {e : E} (he : OkE F T k np O e) : OkP F T k np O (.yes e) := fun {G X W x} xo h => by
    unfold ckP at h
    split at h
    · exact po_yes (he xo h).pe
    · cases h
theorem ok_cnil : OkC F T k np O .nil := fun {G X W xs} xo h => by
    unfold ckC at h
    split at h
    · exact ⟨fun pins s st H Q I ⟨en, S, J, r, w, e, p⟩ => pts_nil.run pins s st H Q I (p H J r w Le.refl)⟩
    · cases h
theorem ok_ccons {e : E} {es : Es} (he : OkE F T k np O e) : OkC F T k np O (.cons e es) := fun {G X W xs} xo h => by
    unfold ckC at h
    split at h
    · simp only [Bool.and_eq_true] at h
      have z := pts_one ((he xo h.1).pt h.2)
      have e2 : TB F W (fun en S => (evE O e en S).bind truR) = TB F W fun en S => evC O (.cons e .nil) en S := TB.cong fun en S => by
        show _ = (evE O e en S).bind fun x S1 => (truR x S1).bind fun c S2 => if c = true then .ok true S2 else .ok false S2
        congr 1
        funext x S1
        rcases truR_cases x S1 with ⟨b, t1, t2⟩ | t2
        · rw [t2]; cases b <;> rfl
        · rw [t2]; rfl
      rw [e2] at z
      exact z
    · cases h
theorem ok_ival {e : E} (he : OkE F T k np O e) : OkI F T k np O (.val e) := fun {G X W tg x} xo h => by
    unfold ckI at h
    exact si_val xo.sx.hK (he xo h).pe
theorem ok_irng1 {e : E} (he : OkE F T k np O e) : OkI F T k np O (.rng1 e) := fun {G X W tg x} xo h => by
    unfold ckI at h
    split at h
    · simp only [Bool.and_eq_true, decide_eq_true_eq] at h
      obtain ⟨⟨⟨rfl, h1⟩, h2⟩, h3⟩ := h
      obtain ⟨g1, g2⟩ := xo.free h1
      exact si_rng1 g1 g2 h2 (he xo h3).pe
    · cases h
theorem ok_irng2 {a b : E} (ha : OkE F T k np O a) (hb : OkE F T k np O b) : OkI F T k np O (.rng2 a b) := fun {G X W tg x} xo h => by
    unfold ckI at h
    split at h
    · simp only [Bool.and_eq_true, decide_eq_true_eq] at h
      obtain ⟨⟨⟨⟨⟨rfl, h1⟩, h2⟩, h3⟩, h4⟩, h5⟩ := h
      obtain ⟨g1, g2⟩ := xo.free h1
      exact si_rng2 g1 g2 h2 h3 (ha xo h4).pe (hb xo h5).pe
    · cases h
theorem ok_ienm {e : E} (he : OkE F T k np O e) : OkI F T k np O (.enm e) := fun {G X W tg x} xo h => by
    unfold ckI at h
    split at h
    · simp only [Bool.and_eq_true, decide_eq_true_eq] at h
      obtain ⟨⟨⟨rfl, h1⟩, h2⟩, h3⟩ := h
      obtain ⟨g1, g2⟩ := xo.free h1
      exact si_enm xo.sx.hK g1 g2 h2 (he xo h3).pe
    · cases h
theorem ok_izip {a b : E} (ha : OkE F T k np O a) (hb : OkE F T k np O b) : OkI F T k np O (.zip a b) := fun {G X W tg x} xo h => by
    unfold ckI at h
    split at h
    · simp only [Bool.and_eq_true, decide_eq_true_eq] at h
      obtain ⟨⟨⟨⟨⟨rfl, h1⟩, h2⟩, h3⟩, h4⟩, h5⟩ := h
      obtain ⟨g1, g2⟩ := xo.free h1
      exact si_zip xo.sx.hK g1 g2 h2 h3 (ha xo h4).pe (hb xo h5).pe
    · cases h
theorem ok_irev {e : E} (he : OkE F T k np O e) : OkI F T k np O (.rev e) := fun {G X W tg x} xo h => by
    unfold ckI at h
    split at h
    · simp only [Bool.and_eq_true, decide_eq_true_eq] at h
      obtain ⟨⟨⟨rfl, h1⟩, h2⟩, h3⟩ := h
      obtain ⟨g1, g2⟩ := xo.free h1
      exact si_rev xo.sx.hK g1 g2 h2 (he xo h3).pe
    · cases h
mutual
theorem okE (hO : O.nf = T.fn.length) : ∀ e : E, OkE F T k np O e
  | .cst v => ok_cst v
  | .var i => ok_var i
  | .glo n v => ok_glo n v
  | .efl p c j => ok_efl p c j
  | .bin o a b => ok_bin o (okE hO a) (okE hO b)
  | .neg a => ok_neg (okE hO a)
  | .not a => ok_not (okE hO a)
  | .and a b => ok_and (okE hO a) (okE hO b)
  | .or a b => ok_or (okE hO a) (okE hO b)
  | .cmp o a b => ok_cmp o (okE hO a) (okE hO b)
  | .chn o p a b c => ok_chn o p (okE hO a) (okE hO b) (okE hO c)
  | .ife c a b => ok_ife (okE hO c) (okE hO a) (okE hO b)
  | .isi a ts => ok_isi ts (okE hO a)
  | .idx a i => ok_idx (okE hO a) (okE hO i)
  | .slc a lo hi => ok_slc (okE hO a) (okP hO lo) (okP hO hi)
  | .slcR a lo hi => ok_slcR (okE hO a) (okP hO lo) (okP hO hi)
  | .tpd es => ok_tpd (okS hO es)
  | .lsd b es => ok_lsd b (okS hO es)
  | .dcd ks vs => ok_dcd (okD hO ks) (okD hO vs)
  | .blt f es => ok_blt f (okS hO es)
  | .call f es => ok_call f (okS hO es)
  | .callv i es => ok_callv hO i (okS hO es)
  | .mth m o es => ok_mth m (okE hO o) (okS hO es)
  | .lc b t it cs e => ok_lc b t (okI hO it) (okC hO cs) (okE hO e)
theorem okD (hO : O.nf = T.fn.length) : ∀ (es : Es) (e : E), es = .cons e .nil → OkE F T k np O e
  | .nil, _, h => by cases h
  | .cons e es, e', h => by
    cases h
    exact okE hO e
theorem okS (hO : O.nf = T.fn.length) : ∀ es : Es, OkS F T k np O es
  | .nil => ok_snil
  | .cons e es => ok_scons (okE hO e) (okS hO es)
theorem okP (hO : O.nf = T.fn.length) : ∀ p : Po, OkP F T k np O p
  | .no => ok_no
  | .yes e => ok_yes (okE hO e)
theorem okC (hO : O.nf = T.fn.length) : ∀ es : Es, OkC F T k np O es
  | .nil => ok_cnil
  | .cons e es => ok_ccons (okE hO e)
theorem okI (hO : O.nf = T.fn.length) : ∀ i : It, OkI F T k np O i
  | .val e => ok_ival (okE hO e)
  | .rng1 e => ok_irng1 (okE hO e)
  | .rng2 a b => ok_irng2 (okE hO a) (okE hO b)
  | .enm e => ok_ienm (okE hO e)
  | .zip a b => ok_izip (okE hO a) (okE hO b)
  | .rev e => ok_irev (okE hO e)
end
end
end GW
/-! Core 16: statements. -/
namespace GW
open PySem L2
section
variable {F : Fx} {X : Cx} {W : WS} {pins : List (Addr × Obj)} {s : Shared} {st : L2.St} {H J H1 J1 H0 J0 : Hp} {r r1 r0 : List Addr} {S S0 : Store} {en : Enm} {n : Nat} {D : Ends}
variable {a b c e tg : Expr} {es : List Expr} {pos : Pos}
variable {T : Tab} {k : Nat} {np : Nat → Nat} {G : Ck} {O : Om}
theorem WS.len (W : WS) (st : L2.St) : (W.st st).length = st.length + W.sd.length := by simp [WS.st]
theorem WS.set (W : WS) {st : L2.St} {i : Nat} (v : Option V) (h : i < st.length) : (W.st st).set i v = W.st (st.set i v) := by
  unfold WS.st
  rw [List.set_append_left _ _ h]
theorem WS.sets (W : WS) : ∀ {is : List Nat} {vs : List V} {st : L2.St}, (∀ i ∈ is, i < st.length) → GW.sets (W.st st) is vs = W.st (GW.sets st is vs)
  | [], _, _, _ => rfl
  | _ :: _, [], _, _ => rfl
  | i :: is, v :: vs, st, h => by
    show GW.sets ((W.st st).set i (some v)) is vs = W.st (GW.sets (st.set i (some v)) is vs)
    rw [W.set _ (h i (List.mem_cons_self ..)), WS.sets W fun j hj => by rw [List.length_set]; exact h j (List.mem_cons_of_mem _ hj)]
theorem WS.stT (W : WS) {t : Tg} {x : V} {vs : List V} {st : L2.St} (h : ∀ i ∈ t.ixs, i < st.length) : GW.stT t x vs (W.st st) = W.st (GW.stT t x vs st) := by
  cases t with
  | one i => exact W.set _ (h i (by simp [Tg.ixs]))
  | tup is => exact W.sets h
/-- what is asked of a statement's end -/
def PoL (F : Fx) (W : WS) (n : Nat) (H J : Hp) (r : List Addr) (x : Fl) (D : Ends) : Prop := match x with
  | .nx en' S' => ∀ st' H' J' r', st'.length = n → Wo F H' J' r' S' → Le H J r H' J' r' → EnW F W J' r' en' st' → en'.length = (W.st st').length → D.nx st' H'
  | .rt v S' => ∀ H' J' r' u, Wo F H' J' r' S' → Le H J r H' J' r' → Rep F J' r' v u → D.rt u H'
  | .ex c fs en' S' => ∀ st' H' J' r' d ws, st'.length = n → Wo F H' J' r' S' → Le H J r H' J' r' → EnW F W J' r' en' st' → en'.length = (W.st st').length → J' d = some (.xd ((F.cf c).zip ws)) → Reps F J' r' fs ws → W.w (.ref (F.ca c)) (some d) st' H'
  | .stk => False
def TSr (F : Fx) (W : WS) (f : Enm → Store → Fl) : TS := fun D st H => ∃ en S J r, Wo F H J r S ∧ EnW F W J r en st ∧ en.length = (W.st st).length ∧ PoL F W st.length H J r (f en S) D
theorem PoL.le {x : Fl} (l : Le H J r H1 J1 r1) (p : PoL F W n H J r x D) : PoL F W n H1 J1 r1 x D := by
  cases x with
  | nx en S => exact fun st' H' J' r' a b c d e => p st' H' J' r' a b (l.trans c) d e
  | rt v S => exact fun H' J' r' u a b c => p H' J' r' u a (l.trans b) c
  | ex c fs en S => exact fun st' H' J' r' d ws a b c e f g h => p st' H' J' r' d ws a b (l.trans c) e f g h
  | stk => exact p
theorem TSr.ofE {fe : Enm → Store → Res Val} {g : Enm → Val → Store → Fl} (p : TSr F W (fun en S => (fe en S).to en (g en)) D st H) :
    TT F W fe st H fun v H1 => ∃ en J1 r1 S1 x, EnW F W J1 r1 en st ∧ en.length = (W.st st).length ∧ Wo F H1 J1 r1 S1 ∧ Rep F J1 r1 x v ∧ PoL F W st.length H1 J1 r1 (g en x S1) D := by
  obtain ⟨en, S, J, r, w, e, hl, p⟩ := p
  refine ⟨en, S, J, r, w, e, ?_⟩
  dsimp only at p
  cases h : fe en S with
  | ok x S1 =>
    rw [h] at p
    exact fun H' J' r' v a b c => ⟨en, J', r', S1, x, e.le b, hl, a, c, p.le b⟩
  | exc c fs S1 =>
    rw [h] at p
    exact fun H' J' r' d ws a b c f => p st H' J' r' d ws rfl a b (e.le b) hl c f
  | stk => rw [h] at p; exact p
theorem TSr.ofB {fe : Enm → Store → Res Bool} {g : Enm → Bool → Store → Fl} (p : TSr F W (fun en S => (fe en S).to en (g en)) D st H) :
    TB F W fe st H fun b H1 => ∃ en J1 r1 S1, EnW F W J1 r1 en st ∧ en.length = (W.st st).length ∧ Wo F H1 J1 r1 S1 ∧ PoL F W st.length H1 J1 r1 (g en b S1) D := by
  obtain ⟨en, S, J, r, w, e, hl, p⟩ := p
  refine ⟨en, S, J, r, w, e, ?_⟩
  dsimp only at p
  cases h : fe en S with
  | ok x S1 =>
    rw [h] at p
    exact fun H' J' r' a b => ⟨en, J', r', S1, e.le b, hl, a, p.le b⟩
  | exc c fs S1 =>
    rw [h] at p
    exact fun H' J' r' d ws a b c f => p st H' J' r' d ws rfl a b (e.le b) hl c f
  | stk => rw [h] at p; exact p
theorem TSr.ofA {fe : Enm → Store → Res (List Val)} {g : Enm → List Val → Store → Fl} (p : TSr F W (fun en S => (fe en S).to en (g en)) D st H) :
    TAA F W fe st H fun vs H1 => ∃ en J1 r1 S1 xs, EnW F W J1 r1 en st ∧ en.length = (W.st st).length ∧ Wo F H1 J1 r1 S1 ∧ Reps F J1 r1 xs vs ∧ PoL F W st.length H1 J1 r1 (g en xs S1) D := by
  obtain ⟨en, S, J, r, w, e, hl, p⟩ := p
  refine ⟨en, S, J, r, w, e, ?_⟩
  dsimp only at p
  cases h : fe en S with
  | ok x S1 =>
    rw [h] at p
    exact fun H' J' r' v a b c => ⟨en, J', r', S1, x, e.le b, hl, a, c, p.le b⟩
  | exc c fs S1 =>
    rw [h] at p
    exact fun H' J' r' d ws a b c f => p st H' J' r' d ws rfl a b (e.le b) hl c f
  | stk => rw [h] at p; exact p
theorem TSr.ofW {fe : Enm → Store → Res Wk} {g : Enm → Wk → Store → Fl} (p : TSr F W (fun en S => (fe en S).to en (g en)) D st H) :
    TW F W fe st H fun it H1 => ∃ en J1 r1 S1 wk, EnW F W J1 r1 en st ∧ en.length = (W.st st).length ∧ Wo F H1 J1 r1 S1 ∧ Iok F it wk H1 J1 r1 ∧ PoL F W st.length H1 J1 r1 (g en wk S1) D := by
  obtain ⟨en, S, J, r, w, e, hl, p⟩ := p
  refine ⟨en, S, J, r, w, e, ?_⟩
  dsimp only at p
  cases h : fe en S with
  | ok x S1 =>
    rw [h] at p
    exact fun H' J' r' v a b c => ⟨en, J', r', S1, x, e.le b, hl, a, c, p.le b⟩
  | exc c fs S1 =>
    rw [h] at p
    exact fun H' J' r' d ws a b c f => p st H' J' r' d ws rfl a b (e.le b) hl c f
  | stk => rw [h] at p; exact p
/-- an assignment's end -/
theorem PoL.put (o : XOk F T k O np G X W) {x : Val} {v : V} {i : Nat} (w : Wo F H J r S) (e : EnW F W J r en st) (hl : en.length = (W.st st).length) (kx : Rep F J r x v) (hi : i < st.length) (hx : G.ex.map (·.1) ≠ some i) (p : PoL F W st.length H J r (.nx (en.set i (some x)) S) D) : D.nx (st.set i (some v)) H := by
  refine p _ H J r (List.length_set ..) w Le.refl ?_ ?_
  · refine ⟨?_, o.iv _ _ _ hx e.iv⟩
    rw [← W.set _ hi]
    exact e.en.put kx (by rw [W.len]; omega)
  · rw [List.length_set, hl, W.len, W.len, List.length_set]
theorem TS.len {X : Cx} {x : Stmt} {t u : TS} (h : ∀ D st H, st.length = X.N.length → u D st H → t D st H) (p : PS X x t) : PS X x u := ⟨fun pins s st H D I q => p.run pins s st H D I (h D st H I.len q)⟩
theorem TSs.imp {X : Cx} {x : List Stmt} {t u : TS} (h : ∀ D st H, u D st H → t D st H) (p : PSs X x t) : PSs X x u := ⟨fun pins s st H D I q => p.run pins s st H D I (h D st H q)⟩
theorem st_nil : PSs X [] (TSr F W fun en S => .nx en S) := TSs.imp (fun D st H ⟨en, S, J, r, w, e, hl, p⟩ => p st H J r rfl w Le.refl e hl) pss_nil
theorem st_cons {x : Stmt} {xs : List Stmt} {f g : Enm → Store → Fl} (h1 : PS X x (TSr F W f)) (h2 : PSs X xs (TSr F W g)) : PSs X (x :: xs) (TSr F W fun en S => (f en S).then fun en' S' => g en' S') := by
  refine TSs.imp (fun D st H ⟨en, S, J, r, w, e, hl, p⟩ => ?_) (pss_cons h1 h2)
  refine ⟨en, S, J, r, w, e, hl, ?_⟩
  dsimp only at p
  cases h : f en S with
  | nx en' S' =>
    rw [h] at p
    exact fun st' H' J' r' a1 a2 a3 a4 a5 => ⟨en', S', J', r', a2, a4, a5, by rw [a1]; exact PoL.le a3 p⟩
  | rt v S' => rw [h] at p; exact p
  | ex c fs en' S' => rw [h] at p; exact p
  | stk => rw [h] at p; exact p
theorem st_set (o : XOk F T k O np G X W) {i : Nat} {x : Str} {p : Pos} (hi : G.loc i x = true) {fe : Enm → Store → Res Val} (he : PE X e (TT F W fe)) (hs : swapsWith e (some (.Name x p)) pos.line X.env = pure false) :
    PS X (.Assign [.Name x p] e pos) (TSr F W fun en S => (fe en S).to en fun v S1 => .nx (en.set i (some v)) S1) := by
  obtain ⟨⟨q1, q2, q3⟩, q4⟩ := o.loc' hi
  refine TS.len (fun D st H hn q => ?_) (ps_set o.nd' q1 q2 he hs q3)
  have hlt : i < st.length := by rw [hn]; exact (List.getElem?_eq_some_iff.mp q1).1
  exact TT.mono (fun v H1 ⟨en, J1, r1, S1, x, e1, hl, w1, kx, p1⟩ => PoL.put o w1 e1 hl kx hlt q4 p1) (TSr.ofE (g := fun en v S1 => .nx (en.set i (some v)) S1) q)
theorem put_stmt (hK : F.K = X.K) (hiv : ∀ st, W.iv st) {t : Tg} (w : Wo F H J r S) (e : EnW F W J r en st) (hl : en.length = (W.st st).length) {x : Val} {v : V} {en' : Enm} (kx : Rep F J r x v) (hi : ∀ i ∈ t.ixs, i < st.length) (h : putT t x en = some en') :
    ∃ vs, EnW F W J r en' (stT t v vs st) ∧ en'.length = (W.st (stT t v vs st)).length ∧ (stT t v vs st).length = st.length ∧ ∀ Q : L2.St → Hp → Prop, Q (stT t v vs st) H → gTg X.K t v st H Q := by
  obtain ⟨vs, ex, h2, put⟩ := put_ok hK t w kx (e.en.toX []) (fun i z => by rw [W.len]; have := hi i z; omega) h
  refine ⟨vs, ?_, ?_, stT_length .., fun Q q => put st Q q⟩
  · refine ⟨?_, hiv _⟩
    rw [← W.stT hi]; exact EnX.nil (by simpa using ex)
  · rw [h2, hl, W.len, W.len, stT_length]
theorem st_tset (o : XOk F T k O np G X W) (hcm : G.calm = true) {is : List Nat} {es : List Expr} {kk : Nat} {p : Pos} (hi : okGs G is es = true) {fe : Enm → Store → Res Val} (he : PE X e (TT F W fe)) (hs : swapsWithSole [.Tuple es kk p] e pos.line X.env = pure false) (hw : swappedStores [.Tuple es kk p] e X.env = pure none) :
    PS X (.Assign [.Tuple es kk p] e pos) (TSr F W fun en S => (fe en S).to en fun v S1 => match putT (.tup is) v en with
      | some en' => .nx en' S1
      | none => .stk) := by
  obtain ⟨g, hlt⟩ := okTg_ok (t := .tup is) (e := .Tuple es kk p) o hcm hi
  refine TS.len (fun D st H hn q => ?_) (ps_asg he g hs hw rfl)
  refine TT.mono (fun v H1 ⟨en, J1, r1, S1, x, e1, hl, w1, kx, p1⟩ => ?_) (TSr.ofE (g := fun en v S1 => match putT (.tup is) v en with
      | some en' => .nx en' S1
      | none => .stk) q)
  cases hp : putT (.tup is) x en with
  | none => rw [hp] at p1; exact p1.elim
  | some en' =>
    rw [hp] at p1
    obtain ⟨vs, z1, z2, z3, z4⟩ := put_stmt o.sx.hK (o.ivc hcm) (t := .tup is) w1 e1 hl kx (fun i z => by rw [hn, o.hN]; exact hlt i z) hp
    exact z4 _ (p1 _ H1 J1 r1 z3 w1 Le.refl z1 z2)
theorem setL (hK : F.K = X.K) : PSet X fun o i v H Q => ∃ J r S xo xi xv, Wo F H J r S ∧ Rep F J r xo o ∧ Rep F J r xi i ∧ Rep F J r xv v ∧ ∃ S', setSub xo xi xv S = some S' ∧ ∀ H' J' r', Wo F H' J' r' S' → Le H J r H' J' r' → Q H' := by
  rintro pins s st H o i v ov iv u Q I ro ri rv ⟨J, r, S, xo, xi, xv, w, ko, ki, kv, S', hs, q⟩
  refine set_list pins s st H o i v ov iv u Q I ro ri rv ?_
  unfold setSub at hs
  split at hs
  · split at hs
    · rename_i l kk xs e0
      simp only [Option.map_eq_some_iff] at hs
      obtain ⟨j, hj, rfl⟩ := hs
      cases ki
      cases ko with
      | ref e1 =>
        obtain ⟨b', e2, vs, e3, t⟩ := w.obs _ _ e0
        rw [e1] at e2
        cases e2
        obtain ⟨w2, l2⟩ := w.wr (u := .lst (vs.set j v)) (o := .lst (xs.set j xv)) e1 ⟨_, upd_same, t.set kv j⟩
        exact ⟨_, vs, _, j, rfl, rfl, e3, by rw [t.length]; exact hj, q _ _ _ w2 l2⟩
    · cases hs
  · cases hs
theorem st_sset (o : XOk F T k O np G X W) {p : Pos} {fe fa fi : Enm → Store → Res Val} (he : PE X e (TT F W fe)) (ha : PE X a (TT F W fa)) (hi : PE X b (TT F W fi)) (hx : okX b = true) (hs : swapsWith e (some (.Subscript a b p)) pos.line X.env = pure false) :
    PS X (.Assign [.Subscript a b p] e pos) (TSr F W fun en S => (fe en S).to en fun v S1 => (fa en S1).to en fun x S2 => (fi en S2).to en fun k S3 => match setSub x k v S3 with
      | some S4 => .nx en S4
      | none => .stk) := by
  refine TS.len (fun D st H hn q => ?_) (ps_asg he (pg_sub ha hi (setL o.sx.hK) (fun v => by cases b <;> first | rfl | (cases hx; done))) hs rfl rfl)
  refine TT.mono (fun v H1 ⟨en, J1, r1, S1, xv, e1, hl, w1, kv, p1⟩ => ?_) (TSr.ofE (g := fun en v S1 => (fa en S1).to en fun x S2 => (fi en S2).to en fun k S3 => match setSub x k v S3 with
      | some S4 => .nx en S4
      | none => .stk) q)
  have two : ∀ {f : Enm → Store → Res Val} {g : Val → Store → Fl} {en J r S H}, Wo F H J r S → EnW F W J r en st → en.length = (W.st st).length → PoL F W st.length H J r ((f en S).to en g) D →
      TT F W f st H fun v H1 => ∃ J1 r1 S1 x, Wo F H1 J1 r1 S1 ∧ Le H J r H1 J1 r1 ∧ Rep F J1 r1 x v ∧ PoL F W st.length H1 J1 r1 (g x S1) D := fun {f g en J r S H} w e hl p => by
    refine ⟨en, S, J, r, w, e, ?_⟩
    cases h : f en S with
    | ok x S1 =>
      rw [h] at p
      exact fun H' J' r' v a b c => ⟨J', r', S1, x, a, b, c, p.le b⟩
    | exc c fs S1 =>
      rw [h] at p
      exact fun H' J' r' d ws a b c f => p st H' J' r' d ws rfl a b (e.le b) hl c f
    | stk => rw [h] at p; exact p
  refine TT.mono (fun x H2 ⟨J2, r2, S2, xa, w2, l2, ka, p2⟩ => ?_) (two w1 e1 hl p1)
  refine TT.mono (fun i H3 ⟨J3, r3, S3, xi, w3, l3, ki, p3⟩ => ?_) (two w2 (e1.le l2) hl p2)
  cases h : setSub xa xi xv S3 with
  | none => rw [h] at p3; exact p3.elim
  | some S4 =>
    rw [h] at p3
    exact ⟨J3, r3, S3, xa, xi, xv, w3, ka.le l3, ki, (kv.le l2).le l3, S4, h, fun H' J' r' w' l' => p3 st H' J' r' rfl w' l' (((e1.le l2).le l3).le l') hl⟩
theorem st_exp {fe : Enm → Store → Res Val} (he : PE X e (TT F W fe)) (hs : swapsWith e none pos.line X.env = pure false) : PS X (.Expr e pos) (TSr F W fun en S => (fe en S).to en fun _ S1 => .nx en S1) :=
  TS.len (fun D st H hn q => TT.mono (fun v H1 ⟨en, J1, r1, S1, x, e1, hl, w1, kx, p1⟩ => p1 st H1 J1 r1 rfl w1 Le.refl e1 hl) (TSr.ofE (g := fun en _ S1 => .nx en S1) q)) (ps_expr he hs)
theorem st_ret {fe : Enm → Store → Res Val} (he : PE X e (TT F W fe)) : PS X (.Return (some e) pos) (TSr F W fun en S => (fe en S).to en fun v S1 => .rt v S1) :=
  TS.len (fun D st H hn q => TT.mono (fun v H1 ⟨en, J1, r1, S1, x, e1, hl, w1, kx, p1⟩ => p1 H1 J1 r1 v w1 Le.refl kx) (TSr.ofE (g := fun _ v S1 => .rt v S1) q)) (ps_ret he)
theorem st_retN : PS X (.Return none pos) (TSr F W fun _ S => .rt .non S) := TS.len (fun D st H hn ⟨en, S, J, r, w, e, hl, p⟩ => p H J r .non w Le.refl .non) ps_retN
theorem st_pas : PS X (.Pass pos) (TSr F W fun en S => .nx en S) := TS.len (fun D st H hn ⟨en, S, J, r, w, e, hl, p⟩ => p st H J r rfl w Le.refl e hl) ps_pass
theorem st_if {fc : Enm → Store → Res Bool} {f g : Enm → Store → Fl} {as bs : List Stmt} (hc : PT X c (TB F W fc)) (ha : PSs X as (TSr F W f)) (hb : PSs X bs (TSr F W g)) : PS X (.If c as bs pos) (TSr F W fun en S => (fc en S).to en fun d S1 => if d = true then f en S1 else g en S1) := by
  refine TS.len (fun D st H hn q => ?_) (ps_if hc ha hb)
  have q2 := TSr.ofB (g := fun en d S1 => if d = true then f en S1 else g en S1) q
  obtain ⟨en, S, J, r, w, e, p⟩ := q2
  refine ⟨en, S, J, r, w, e, ?_⟩
  have conv : ∀ {d : Bool} {H1 : Hp}, (∃ en J1 r1 S1, EnW F W J1 r1 en st ∧ en.length = (W.st st).length ∧ Wo F H1 J1 r1 S1 ∧ PoL F W st.length H1 J1 r1 (if d = true then f en S1 else g en S1) D) → (if d = true then TSr F W f D st H1 else TSr F W g D st H1) := fun {d H1} ⟨en, J1, r1, S1, e1, hl, w1, p1⟩ => by
    cases d with
    | true => exact ⟨en, S1, J1, r1, w1, e1, hl, p1⟩
    | false => exact ⟨en, S1, J1, r1, w1, e1, hl, p1⟩
  cases h : fc en S with
  | ok x S1 => rw [h] at p; exact fun H' J' r' a b => conv (p H' J' r' a b)
  | exc c fs S1 => rw [h] at p; exact p
  | stk => rw [h] at p; exact p
theorem st_whl (o : XOk F T k O np G X W) (htp : G.top = true) {fc : Enm → Store → Res Bool} {f : Enm → Store → Fl} {bs : List Stmt} (fu : Nat) (hc : PT X c (TB F W fc)) (hb : PSs X bs (TSr F W f)) : PS X (.While c bs [] pos) (TSr F W fun en S => whlF fc f fu en S) := by
  refine TS.len (fun D st0 H0 hn ⟨en, S, J, r, w, e, hl, p⟩ => ?_) (ps_while (o.po htp) hc hb)
  let Wm : Nat → L2.St → Hp → Prop := fun m st H => ∃ J' r' S en, st.length = st0.length ∧ Wo F H J' r' S ∧ Le H0 J r H J' r' ∧ EnW F W J' r' en st ∧ en.length = (W.st st).length ∧ PoL F W st0.length H0 J r (whlF fc f m en S) D
  refine ⟨Wm, ⟨fu, J, r, S, en, rfl, w, Le.refl, e, hl, p⟩, ?_⟩
  rintro m st H ⟨J1, r1, S1, en, hs, w, l, e, hl, p⟩
  cases m with
  | zero => exact p.elim
  | succ m =>
    refine ⟨en, S1, J1, r1, w, e, ?_⟩
    unfold whlF at p
    cases h : fc en S1 with
    | stk => rw [h] at p; exact p.elim
    | exc c fs S2 =>
      rw [h] at p
      exact fun H' J' r' d ws a b c g => p st H' J' r' d ws hs a (l.trans b) (e.le b) hl c g
    | ok d S2 =>
      rw [h] at p
      intro H2 J2 r2 w2 l2
      cases d with
      | false => exact p st H2 J2 r2 hs w2 (l.trans l2) (e.le l2) hl
      | true =>
        refine ⟨Wm m, fun st' H' z => ⟨m, Nat.lt_succ_self m, z⟩, en, S2, J2, r2, w2, e.le l2, hl, ?_⟩
        simp only [Res.to_ok, if_true] at p
        cases h3 : f en S2 with
        | stk => rw [h3] at p; exact p.elim
        | nx en' S3 =>
          rw [h3] at p
          exact fun st' H' J' r' a1 a2 a3 a4 a5 => ⟨J', r', S3, en', by rw [a1, hs], a2, (l.trans l2).trans a3, a4, a5, p⟩
        | rt v S3 =>
          rw [h3] at p
          exact fun H' J' r' u a1 a2 a3 => p H' J' r' u a1 ((l.trans l2).trans a2) a3
        | ex c fs en' S3 =>
          rw [h3] at p
          exact fun st' H' J' r' d ws a1 a2 a3 a4 a5 a6 a7 => p st' H' J' r' d ws (by rw [a1, hs]) a2 ((l.trans l2).trans a3) a4 a5 a6 a7
theorem st_for (o : XOk F T k O np G X W) (hcm : G.calm = true) (htp : G.top = true) (t : Tg) {iter : Expr} {fi : Enm → Store → Res Wk} {f : Enm → Store → Fl} {bs : List Stmt} (htg : okTg G t tg = true) (hx : okX iter = true) (hi : PI X tg iter (TW F W fi)) (hb : PSs X bs (TSr F W f)) :
    PS X (.For tg iter bs [] pos) (TSr F W fun en S => (fi en S).to en fun wk S1 => forF wk.cs wk.xs t f wk.its en S1) := by
  obtain ⟨g, hlt⟩ := okTg_ok o hcm htg
  refine TS.len (fun D st0 H hn q => ?_) (ps_for (o.po htp) (o.calm hcm) hi g hb (okX_fold hx _))
  have q2 := TSr.ofW (g := fun en wk S1 => forF wk.cs wk.xs t f wk.its en S1) q
  obtain ⟨en, S, J, r, w, e, p⟩ := q2
  refine ⟨en, S, J, r, w, e, ?_⟩
  have conv : ∀ {it : L2.It} {H1 : Hp}, (∃ en J1 r1 S1 wk, EnW F W J1 r1 en st0 ∧ en.length = (W.st st0).length ∧ Wo F H1 J1 r1 S1 ∧ Iok F it wk H1 J1 r1 ∧ PoL F W st0.length H1 J1 r1 (forF wk.cs wk.xs t f wk.its en S1) D) →
      ∃ Wm : Nat → Nat → L2.St → Hp → Prop, (∃ m, Wm 0 m st0 H1) ∧ ∀ i m st H, Wm i m st H → (it.stop i H ∧ D.nx st H) ∨ (it.go i H ∧ ∃ N : L2.St → Hp → Prop, (∀ st' H', N st' H' → ∃ m', m' < m ∧ Wm (i + 1) m' st' H') ∧ ∀ x H', it.yld i H x H' → gTg X.K t x st H' fun st2 H2 => TSr F W f { D with nx := N, ct := N, bk := D.nx } st2 H2) := by
    rintro it H1 ⟨en, J1, r1, S1, wk, e1, hl, w1, ik, p1⟩
    let Wm : Nat → Nat → L2.St → Hp → Prop := fun i m st H => ∃ J r S en, m = wk.its.length - i ∧ st.length = st0.length ∧ Wo F H J r S ∧ Le H1 J1 r1 H J r ∧ EnW F W J r en st ∧ en.length = (W.st st).length ∧ PoL F W st0.length H1 J1 r1 (forF wk.cs wk.xs t f (wk.its.drop i) en S) D
    refine ⟨Wm, ⟨_, J1, r1, S1, en, rfl, rfl, w1, Le.refl, e1, hl, p1⟩, ?_⟩
    rintro i m st H ⟨J, r, S, en, rfl, hs, w, l, e, hl, p⟩
    cases hd : wk.its.drop i with
    | nil =>
      left
      rw [hd] at p
      unfold forF at p
      split at p
      · rename_i lv
        exact ⟨(ik H J r S i l w lv).1 (List.drop_eq_nil_iff.mp hd), p st H J r hs w l e hl⟩
      · exact p.elim
    | cons v rest =>
      right
      have hi : i < wk.its.length := by
        refine Nat.lt_of_not_le fun z => ?_
        rw [List.drop_eq_nil_of_le z] at hd
        cases hd
      have hv : wk.its[i]? = some v := by
        have := List.getElem?_drop (xs := wk.its) (i := i) (j := 0)
        rw [hd] at this
        simpa using this.symm
      have hrest : wk.its.drop (i + 1) = rest := by
        rw [← List.tail_drop, hd]
        rfl
      rw [hd] at p
      unfold forF at p
      split at p
      · rename_i lv
        obtain ⟨hgo, hy⟩ := (ik H J r S i l w lv).2 v hv
        refine ⟨hgo, Wm (i + 1) (wk.its.length - (i + 1)), fun st' H' q => ⟨_, by omega, q⟩, fun x H' yl => ?_⟩
        obtain ⟨J', w', l', kx⟩ := hy x H' yl
        split at p
        · rename_i en' hp
          obtain ⟨vs, z1, z2, z3, z4⟩ := put_stmt o.sx.hK (o.ivc hcm) w' (e.le l') hl kx (fun j z => by rw [hs, hn, o.hN]; exact hlt j z) hp
          refine z4 _ ⟨en', S, J', r, w', z1, z2, ?_⟩
          cases h3 : f en' S with
          | stk => rw [h3] at p; exact p.elim
          | nx en2 S3 =>
            rw [h3] at p
            exact fun st' H' J' r' a1 a2 a3 a4 a5 => ⟨J', r', S3, en2, rfl, by rw [a1, z3, hs], a2, (l.trans l').trans a3, a4, a5, by rw [hrest]; exact p⟩
          | rt v S3 =>
            rw [h3] at p
            exact fun H' J' r' u a1 a2 a3 => p H' J' r' u a1 ((l.trans l').trans a2) a3
          | ex c fs en2 S3 =>
            rw [h3] at p
            exact fun st' H' J' r' d ws a1 a2 a3 a4 a5 a6 a7 => p st' H' J' r' d ws (by rw [a1, z3, hs]) a2 ((l.trans l').trans a3) a4 a5 a6 a7
        · exact p.elim
      · exact p.elim
  cases h : fi en S with
  | ok x S1 => rw [h] at p; exact fun H' J' r' it a b c => conv (p H' J' r' it a b c)
  | exc c fs S1 => rw [h] at p; exact p
  | stk => rw [h] at p; exact p
/-- a, b = x, y -/
theorem st_par (o : XOk F T k O np G X W) (hcm : G.calm = true) {i j : Nat} {x y : Str} {px py pt p2 : Pos} {kt k2 : Nat} (hi : G.N[i]? = some x) (hj : G.N[j]? = some y) (hij : i ≠ j) (hx : G.sc.names.lookup x = some .local) (hy : G.sc.names.lookup y = some .local)
    {fa fb : Enm → Store → Res Val} (ha : PE X a (TT F W fa)) (hb : PE X b (TT F W fb)) (h1 : okX a = true) (h2 : okX b = true)
    (hw : swappedStores [.Tuple [.Name x px, .Name y py] kt pt] (.Tuple [a, b] k2 p2) X.env = pure (some [x, y])) :
    PS X (.Assign [.Tuple [.Name x px, .Name y py] kt pt] (.Tuple [a, b] k2 p2) pos) (TSr F W fun en S => (fa en S).to en fun v S1 => (fb en S1).to en fun u S2 => .nx ((en.set i (some v)).set j (some u)) S2) := by
  refine TS.len (fun D st H hn q => ?_) (ps_par (o.calm hcm) o.nd' (by rw [o.hN]; exact hi) (by rw [o.hN]; exact hj) hij (by rw [o.sc]; exact hx) (by rw [o.sc]; exact hy) (sa_cons h1 ha (sa_cons h2 hb sa_nil)) hw rfl)
  have hli : i < st.length := by rw [hn, o.hN]; exact (List.getElem?_eq_some_iff.mp hi).1
  have hlj : j < st.length := by rw [hn, o.hN]; exact (List.getElem?_eq_some_iff.mp hj).1
  have q2 : TSr F W (fun en S => ((fa en S).bind fun v S1 => (((fb en S1).bind fun u S2 => (Res.ok [] S2).bind fun xs S3 => Res.ok (u :: xs) S3)).bind fun xs S2 => Res.ok (v :: xs) S2).to en fun xs S2 => match xs with
      | [v, u] => .nx ((en.set i (some v)).set j (some u)) S2
      | _ => .stk) D st H := by
    obtain ⟨en, S, J, r, w, e, hl, p⟩ := q
    refine ⟨en, S, J, r, w, e, hl, ?_⟩
    dsimp only at p ⊢
    cases h : fa en S with
    | stk => rw [h] at p; exact p
    | exc c fs S1 => rw [h] at p; exact p
    | ok v S1 =>
      rw [h] at p
      simp only [Res.bind_ok, Res.to_ok] at p ⊢
      cases h : fb en S1 with
      | stk => rw [h] at p; exact p
      | exc c fs S1 => rw [h] at p; exact p
      | ok u S2 => rw [h] at p; exact p
  refine TAA.mono (fun vs H1 ⟨en, J1, r1, S1, xs, e1, hl, w1, t, p1⟩ => ?_) (TSr.ofA (g := fun en xs S2 => match xs with
      | [v, u] => .nx ((en.set i (some v)).set j (some u)) S2
      | _ => .stk) q2)
  split at p1
  · rename_i v u
    obtain ⟨v', u', rfl, k1, k2⟩ := reps2 t
    refine ⟨v', u', rfl, ?_⟩
    have e2 := e1.en.put k1 (i := i) (by rw [W.len]; omega)
    have e3 := e2.put k2 (i := j) (by rw [List.length_set, W.len]; omega)
    rw [W.set _ hli, W.set _ (by rw [List.length_set]; exact hlj)] at e3
    refine p1 _ H1 J1 r1 (by rw [List.length_set, List.length_set]) w1 Le.refl ⟨e3, o.ivc hcm _⟩ ?_
    rw [List.length_set, List.length_set, hl, W.len, W.len, List.length_set, List.length_set]
  · exact p1.elim
end
end GW
/-! Core 17: raise. -/
namespace GW
open PySem L2
section
variable {F : Fx} {X : Cx} {W : WS} {pins : List (Addr × Obj)} {s : Shared} {st : L2.St} {H J H1 J1 H0 J0 : Hp} {r r1 r0 : List Addr} {S S0 : Store} {en : Enm} {n : Nat} {D : Ends}
variable {a b c e tg : Expr} {es : List Expr} {pos : Pos}
variable {T : Tab} {k : Nat} {np : Nat → Nat} {G : Ck} {O : Om}
def Es.len : Es → Nat
  | .nil => 0
  | .cons _ es => es.len + 1
theorem evs_len : ∀ {es : Es} {en : Enm} {S S' : Store} {xs : List Val}, evs O es en S = .ok xs S' → xs.length = es.len
  | .nil, _, _, _, _, h => by
    unfold evs at h
    cases h
    rfl
  | .cons e es, en, S, _, _, h => by
    unfold evs at h
    cases h1 : evE O e en S with
    | stk => rw [h1] at h; cases h
    | exc c fs S1 => rw [h1] at h; cases h
    | ok x S1 =>
      rw [h1] at h
      simp only [Res.bind_ok] at h
      cases h2 : evs O es en S1 with
      | stk => rw [h2] at h; cases h
      | exc c fs S1 => rw [h2] at h; cases h
      | ok ys S2 =>
        rw [h2] at h
        simp only [Res.bind_ok] at h
        cases h
        exact congrArg (· + 1) (evs_len h2)
theorem heap_exc {H : Hp} {p dx C : Addr} {fs : List (Str × V)} (hp : H p = none) (hd : dx ≠ p) : upd (del (upd (upd (upd H p (exo p C none)) dx (exd dx fs)) p (exo p C (some dx))) p) dx (.xd fs) = upd H dx (.xd fs) := by
  funext q
  by_cases h1 : q = dx
  · subst h1; rw [upd_same, upd_same]
  · rw [upd_ne h1, upd_ne h1]
    by_cases h2 : q = p
    · subst h2; rw [del_same, hp]
    · rw [del_ne h2, upd_ne h2, upd_ne h1, upd_ne h2]
theorem Reps.revr {F : Fx} {J : Hp} {r : List Addr} {xs : List Val} {vs : List V} (h : Reps F J r xs vs) : Reps F J r xs.reverse vs.reverse := h.reverse
theorem st_rai (o : XOk F T k O np G X W) (hcm : G.calm = true) {c : Nat} {x : Str} {p pp : Pos} (hc : c ∈ T.ci) (hx : T.cl[c]? = some x) (hg : G.glo x = true) (hd : (x == ("__debug__" : Str)) = false) (hxs : okXs (e :: es) = true) {m : Nat} (hm : m ≤ 1000) (hlen : m = (F.cf c).length)
    {fs : Enm → Store → Res (List Val)} (hn : ∀ en S xs S', fs en S = .ok xs S' → xs.length = m) (ha : PA X (e :: es) (TAA F W fs)) : PS X (.Raise (some (.Call (.Name x p) (e :: es) [] pp)) none pos) (TSr F W fun en S => (fs en S).to en fun xs S1 => .ex c xs.reverse en S1) := by
  obtain ⟨h1, h2⟩ := Bool.and_eq_true_iff.mp hxs
  have i := o.ini c hc
  obtain ⟨fI, fd, ps, g1, g2, g3, g4⟩ := i.fn
  have mk := pmk_oex (p := p) (pos := pp) (dvs := []) i.oex g1 g2 g3 ((o.rm hcm).mono o.k2) g4 .nil (fun pins st H s e s' I ⟨_, _, _, _, _, _, _, _, _, _, _, _, z⟩ => z.elim) (o.glo hg) (o.cls c x hx) ha hd (okX_star h1 _ _) (okXs_any _ _ h2)
  refine TS.len (fun D st H hs q => ?_) (ps_raise (o.calm hcm) o.tk mk)
  have q2 := TSr.ofA (g := fun en xs S1 => .ex c xs.reverse en S1) q
  have q3 : TAA F W fs st H fun vs H1 => ∃ en J1 r1 S1 xs, xs.length = m ∧ EnW F W J1 r1 en st ∧ en.length = (W.st st).length ∧ Wo F H1 J1 r1 S1 ∧ Reps F J1 r1 xs vs ∧ PoL F W st.length H1 J1 r1 (.ex c xs.reverse en S1) D := by
    obtain ⟨en, S, J, r, w, e, hl, p⟩ := q
    refine ⟨en, S, J, r, w, e, ?_⟩
    dsimp only at p
    cases h : fs en S with
    | ok x S1 =>
      rw [h] at p
      exact fun H' J' r' v a b c => ⟨en, J', r', S1, x, hn _ _ _ _ h, e.le b, hl, a, c, p.le b⟩
    | exc c fs S1 =>
      rw [h] at p
      exact fun H' J' r' d ws a b c f => p st H' J' r' d ws rfl a b (e.le b) hl c f
    | stk => rw [h] at p; exact p
  show TAA F W fs st H _
  refine TAA.mono (fun vs H1 ⟨en, J1, r1, S1, xs, hxm, e1, hl, w1, t, p1⟩ => ?_) q3
  have hv : vs.length = m := by rw [t.length, hxm]
  refine ⟨by rw [hv]; exact hm, fun a ha0 => ⟨a, vs, by rw [List.append_nil], by rw [hv, hlen], upd_same, fun dx hdx hne => ⟨rfl, dx, (F.cf c).zip vs.reverse, upd_same, ?_, ?_, ?_⟩⟩⟩
  · rw [upd_ne hne, upd_same]
  · rw [upd_ne hne] at hdx; exact hdx
  · rw [heap_exc ha0 hne]
    rw [upd_ne hne] at hdx
    obtain ⟨w2, l2⟩ := w1.frz (o := .xd ((F.cf c).zip vs.reverse)) hdx
    exact p1 st _ _ r1 dx vs.reverse rfl w2 l2 (e1.le l2) hl upd_same (t.reverse.le l2)
end
end GW
/-! Core 18: try with several clauses, with names and without. -/
namespace GW
open PySem L2
/-- behind a suite the clause's name is gone -/
def goneD (i : Nat) (D : Ends) : Ends := { nx := fun st' Hy => D.nx (st'.set i none) Hy, rt := D.rt, bk := fun st' Hy => D.bk (st'.set i none) Hy, ct := fun st' Hy => D.ct (st'.set i none) Hy }
structure Cls where
  c : Value
  io : Option Nat
  ts : Addr → Value → Option Addr → TS
def Cls.wish (q : Cls) (a : Addr) (cv : Value) (d : Option Addr) (D : Ends) (st : L2.St) (H : Hp) : Prop := match q.io with
  | none => q.ts a cv d D st H
  | some i => q.ts a cv d (goneD i D) (st.set i (some (.ref a))) H
/-- what the clauses ask of an exception that leaves the body -/
def wAll (K : PySem.W.Frag) (Wo : WX) (D : Ends) : List Cls → WX
  | [] => Wo
  | q :: more => fun cv d st H => ∃ yes, PySem.W.exmOne K cv q.c = some yes ∧ (yes = true → ∀ a, H a = none → q.wish a cv d D st H) ∧ (yes = false → wAll K Wo D more cv d st H)
def nameOk (X : Cx) : Option Str → Option Nat → Prop
  | none, none => True
  | some y, some i => X.N[i]? = some y ∧ X.env.kindOf y = some .local
  | _, _ => False
inductive HdsA (X : Cx) : List ExceptHandler → List Cls → Prop
  | nil : HdsA X [] []
  | cons {x : Str} {on : Option Str} {q : Cls} {b1 : Stmt} {bs : List Stmt} {p1 p2 : Pos} {hs : List ExceptHandler} {l : List Cls} (nm : Names X x q.c) (no : nameOk X on q.io)
      (su : ∀ (a : Addr) (oe : Obj) (cv : Value) (d : Option Addr) (pn : List (Addr × Obj)), Zc cv d oe → (∃ vs, oe.data = .fields vs) → PSs (X.suite a ((a, oe) :: pn)) (b1 :: bs) (q.ts a cv d)) (more : HdsA X hs l) :
      HdsA X (.ExceptHandler (some (.Name x p1)) on (b1 :: bs) p2 :: hs) (q :: l)
section
variable {X : Cx} {body : List Stmt} {h1 : ExceptHandler} {hs : List ExceptHandler} {l : List Cls} {pos : Pos} {tb : WX → TS} {Wo : WX}
theorem look_name {x : Str} {c : Value} {a : Addr} {pn pins : List (Addr × Obj)} {st : L2.St} {H : Hp} {s : Shared} {p : Pos} {Q : Value → Shared → Prop} {E : Value → Shared → Prop} (nm : Names X x c) (I : Inv (X.suite a pn) pins st H s) (q : Q c s) :
    wpAny (model X.prog X.w) (X.A.mark (some (.ref a))) (eval (.Name x p) X.env) Q E s := by
  obtain ⟨g1, g2, g3 | ⟨g3, g4, g5⟩⟩ := nm
  · exact ld_glob (X := X.suite a pn) I g1 g3 q g2
  · exact ld_blt (X := X.suite a pn) I g1 g3 g4 q g5 g2
/-- the clauses, one behind the other, with the exception on the ground -/
theorem go_clauses (ok : X.Ok) (hN : X.N.Nodup) (hst : X.stack = X.env :: X.outer) (hf : X.env.frame = some X.env.locals) (tk : Takes X Wo) {D : Ends} {a : Addr} {B : Heap} {sI s1 : Shared} {pins : List (Addr × Obj)} {st : L2.St} {H : Hp} {cv : Value} {d : Option Addr} {h3 : Heap}
    (J : Inv X pins st H sI) (nb : ∀ b o, sI.heap.get? b = some o → b ∉ frs X.stack → B.get? b = some o) (fl3 : HandSPX.FlyingZ B (X.env :: X.outer) a (Zc cv d) h3) (up3 : sI.heap.UpToSlots h3) (os : s1.os = sI.os) (ag : PyProof.Rows.AllBare s1.gens) (na : H a = none) (nL : a ≠ X.env.locals) (nF : a ∉ X.fs) :
    ∀ {hs : List ExceptHandler} {l : List Cls}, HdsA X hs l → wAll X.K Wo D l cv d st H → wpAny (model X.prog X.w) X.A (handleBy (.ref a) X.env hs) (SP X pins D) X.xe { s1 with heap := h3 } := by
  have J3 : Inv X pins st H { s1 with heap := h3 } := J.landed nb fl3.1 up3 os ag
  obtain ⟨oe3, vs3, he3, hz3, hd3⟩ := fl3.there
  have S3 := J3.suite he3 hd3 na nL nF
  intro hs l hk
  induction hk with
  | nil =>
    intro wsh
    refine wpAny_handleBy_nil ?_
    obtain ⟨z1, z2, z3, oe, vs, T, oT, ts2, he, hz, hd, hv1, hr⟩ := id fl3
    unfold PySem.passOn
    refine wpAny_bind (wpAny_field he hd hv1 ?_)
    rw [if_neg (show ¬ ((Value.ref T == Value.none) = true) by simp)]
    have last : wpAny (model X.prog X.w) X.A (setFlight (.ref a) X.env.frame) (fun _ s4 => wpAny (model X.prog X.w) X.A (throw (.ref a) : Sem Flow) (SP X pins D) X.xe s4) X.xe { s1 with heap := h3 } := by
      rw [hf]
      refine HandSPX.setFlight_upZ fl3 fun h4 hh4 up4 => wpAny_throw (tk _ _ ⟨a, B, sI, pins, st, H, cv, d, rfl, J, nb, up3.trans up4, ?_, na, os, ag, wsh⟩)
      exact .inr (.inr (by rw [hst]; exact hh4))
    first
      | exact wpAny_bind (wpAny_pure (wpAny_bind last))
      | exact wpAny_bind last
  | @cons x on q b1 bs p1 p2 hs2 l2 nm no su more ih =>
    intro wsh
    obtain ⟨yes, hy, hyes, hno⟩ := wsh
    refine wpAny_handleBy_cons (codeAny_handlers_test ?_) (by intro z; cases z)
    have LT : PySem.W.Looks (model X.prog X.w) h3 (typeOf (.ref a)) cv := fun A Q E s kk z => wpAny_typeOf_ref (kk _ _ he3) (by rw [hz3.1]; exact z)
    have LM := PySem.W.exm_one (M := model X.prog X.w) J3.kIn LT hy
    refine look_name (pn := (a, oe3) :: (X.pn ++ pins)) nm S3 (LM.here ?_)
    cases yes with
    | false => exact ih (hno rfl)
    | true =>
      have q0 := hyes rfl a na
      unfold Cls.wish at q0
      cases on with
      | none =>
        cases hio : q.io with
        | some i => rw [hio] at no; exact no.elim
        | none =>
          rw [hio] at q0
          refine codeAny_handlers_suite (HandSPX.lands_againZ fl3 fun h4 fl4 up4 => ?_)
          have J4 : Inv X pins st H { s1 with heap := h4 } := J.landed nb fl4.1 (up3.trans up4) os ag
          obtain ⟨oe4, vs4, he4, hz4, hd4⟩ := fl4.there
          have S4 := J4.suite he4 hd4 na nL nF
          refine wpAny_mono ((su a oe4 cv d (X.pn ++ pins) hz4 ⟨_, hd4⟩).run [] _ st H _ S4 q0) (fun f s6 hsp => ?_) (fun _ _ z => z.elim)
          match f, hsp with
          | .next, ⟨st6, H6, S6, q6⟩ => exact ⟨_, _, S6.unsuite ok, q6⟩
          | .brk, ⟨st6, H6, S6, q6⟩ => exact ⟨_, _, S6.unsuite ok, q6⟩
          | .cont, ⟨st6, H6, S6, q6⟩ => exact ⟨_, _, S6.unsuite ok, q6⟩
          | .ret u, ⟨v6, st6, H6, S6, r6, q6⟩ => exact ⟨_, _, _, S6.unsuite ok, r6, q6⟩
      | some y =>
        cases hio : q.io with
        | none => rw [hio] at no; exact no.elim
        | some i =>
          rw [hio] at q0 no
          obtain ⟨hi, hln⟩ := no
          refine codeAny_handlers_suite_as (HandSPX.lands_againZ fl3 fun h4 fl4 up4 => ?_)
          have J4 : Inv X pins st H { s1 with heap := h4 } := J.landed nb fl4.1 (up3.trans up4) os ag
          obtain ⟨oe4, vs4, he4, hz4, hd4⟩ := fl4.there
          have S4 := J4.suite he4 hd4 na nL nF
          refine store_ok (X := X.suite a ((a, oe4) :: (X.pn ++ pins))) (v := .ref a) S4 hN hi (.inl hln) rfl (fun s5 S5 => ?_) (.inr hln)
          refine wpAny_mono ((su a oe4 cv d (X.pn ++ pins) hz4 ⟨_, hd4⟩).run [] s5 _ H _ S5 q0) (fun f s6 hsp => ?_) (fun _ _ z => z.elim)
          have close : ∀ {st6 : L2.St} {H6 : Hp} {Q : Shared → Prop}, Inv (X.suite a ((a, oe4) :: (X.pn ++ pins))) [] st6 H6 s6 → (∀ s7, Inv X pins (st6.set i none) H6 s7 → Q s7) →
              wpAny (model X.prog X.w) X.A (do bindName X.env y .none; unbindBehindTheSuite X.env y p2) (fun _ s7 => Q s7) X.xe s6 := fun {st6 H6 Q} S6 hq => gone_ok (S6.unsuite ok) hN hi hln hq
          match f, hsp with
          | .next, ⟨st6, H6, S6, q6⟩ => exact close S6 fun s7 J7 => ⟨_, _, J7, q6⟩
          | .brk, ⟨st6, H6, S6, q6⟩ => exact close S6 fun s7 J7 => ⟨_, _, J7, q6⟩
          | .cont, ⟨st6, H6, S6, q6⟩ => exact close S6 fun s7 J7 => ⟨_, _, J7, q6⟩
          | .ret u, ⟨v6, st6, H6, S6, r6, q6⟩ => exact close S6 fun s7 J7 => ⟨_, _, _, J7, r6, q6⟩
theorem ps_tryA (hN : X.N.Nodup) (hst : X.stack = X.env :: X.outer) (hf : X.env.frame = some X.env.locals) (tk : Takes X Wo)
    (hb : ∀ (W : WX) (pn : List (Addr × Obj)) (xe : Value → Shared → Prop), Takes (X.tr pn xe) W → PassesOwn (model X.prog X.w) X.A X.env xe → PSs (X.tr pn xe) body (tb W)) (hh : HdsA X (h1 :: hs) l) :
    PS X (.Try body (h1 :: hs) [] [] pos) (fun D st H => tb (wAll X.K Wo D l) D st H) := by
  refine ⟨fun pins s st H D I h => wpAny_Try_except ?_⟩
  have ok := I.ok
  have hfr : X.A.frames = some (X.env :: X.outer) := by rw [ok.frames, hst]
  let xe : Value → Shared → Prop := fun e s1 => wpAny (model X.prog X.w) X.A (noteFrame e X.env) (fun _ s2 => wpAny (model X.prog X.w) X.A (setFlight e none) (fun _ s3 => wpAny (model X.prog X.w) X.A (handleBy e X.env (h1 :: hs)) (SP X pins D) X.xe s3) X.xe s2) X.xe s1
  have caught : Takes (X.tr (X.pn ++ pins) xe) (wAll X.K Wo D l) := fun u s1 ⟨a, B, sI, pins', st', H', cv, d, eu, J', nb, up, sky, na, os, ag, wsh⟩ => by
    subst eu
    have J : Inv X pins st' H' sI := J'.ofTry ok
    have sky' : Sky B (X.env :: X.outer) a (Zc cv d) X.env.locals s1.heap := by rw [← hst]; exact sky
    refine Sky.land Zc.steady hfr hf sky' fun h3 fl3 up3 => ?_
    obtain ⟨oe3, vs3, he3, hz3, hd3⟩ := fl3.there
    have nfr : a ∉ frs (X.env :: X.outer) := fun hm => by
      obtain ⟨_, o2, e2, hnf⟩ := fl3.2.2.1.mem hm
      rw [he3] at e2
      cases e2
      exact hnf _ hd3
    have nL : a ≠ X.env.locals := fun z => nfr (List.mem_filterMap.mpr ⟨X.env, List.mem_cons_self, by rw [hf, z]⟩)
    have nF : a ∉ X.fs := fun hm => by
      obtain ⟨e2, he2, q2⟩ := List.mem_filterMap.mp hm
      exact nfr (List.mem_filterMap.mpr ⟨e2, List.mem_cons_of_mem _ he2, q2⟩)
    exact go_clauses ok hN hst hf tk J nb fl3 (up.trans up3) os ag na nL nF hh wsh
  refine wpAny_mono ((hb (wAll X.K Wo D l) (X.pn ++ pins) xe caught PassesOwn.looking).run [] s st H D (I.toTry _) h) (fun f s1 hsp => ?_) (fun e s1 he => he)
  match f, hsp with
  | .next, ⟨st6, H6, S6, q6⟩ => exact wpAny_execs_nil ⟨st6, H6, S6.ofTry ok, q6⟩
  | .brk, ⟨st6, H6, S6, q6⟩ => exact ⟨st6, H6, S6.ofTry ok, q6⟩
  | .cont, ⟨st6, H6, S6, q6⟩ => exact ⟨st6, H6, S6.ofTry ok, q6⟩
  | .ret u, ⟨v6, st6, H6, S6, r6, q6⟩ => exact ⟨v6, st6, H6, S6.ofTry ok, r6, q6⟩
end
end GW
/-! Core 19: try; the check of statements. -/
namespace GW
open PySem L2
section
variable {F : Fx} {X : Cx} {W : WS} {pins : List (Addr × Obj)} {s : Shared} {st : L2.St} {H J H1 J1 H0 J0 : Hp} {r r1 r0 : List Addr} {S S0 : Store} {en : Enm} {n : Nat} {D : Ends}
variable {a b c e tg : Expr} {es : List Expr} {pos : Pos}
variable {T : Tab} {k : Nat} {np : Nat → Nat} {G : Ck} {O : Om}
def Ck.off (G : Ck) (x : Option (Nat × Nat)) : Ck := { G with calm := false, top := false, ex := x }
/-- in a suite without a name -/
def Wn : WS := ⟨fun _ _ _ _ => False, [], fun _ => True⟩
/-- in a suite with one: a the exception, dd its dict -/
def Wx (i : Nat) (a dd : Addr) : WS := ⟨fun _ _ _ _ => False, [.ref dd], fun st => st[i]? = some (some (.ref a))⟩
theorem takes_no {X : Cx} : Takes X (fun _ _ _ _ => False) := fun u s' ⟨_, _, _, _, _, _, _, _, _, _, _, _, _, _, _, _, z⟩ => z.elim
theorem XOk.tr (o : XOk F T k O np G X W) (pn : List (Addr × Obj)) (xe : Value → Shared → Prop) {W' : WX} (hsd : W.sd = []) (hiv : ∀ st, W.iv st) (htop : G.top = true) (tk : Takes (X.tr pn xe) W') (po : PassesOwn (model X.prog X.w) X.A X.env xe) (hex : G.ex = none) :
    XOk F T k O np G (X.tr pn xe) ⟨W', [], fun _ => True⟩ where
  sx := ⟨o.sx.hK, o.sx.un, o.sx.gd, o.sx.sm⟩
  calm := o.calm
  hN := o.hN
  nd := o.nd
  sc := o.sc
  fn := o.fn
  tk := tk
  rm := o.rm
  sd := fun _ => rfl
  po := fun _ => po
  hs := o.hs
  ft := o.ft
  iv := fun _ _ _ _ _ => trivial
  ivc := fun _ _ => trivial
  fns := o.fns
  cls := o.cls
  ini := o.ini
  sub := o.sub
  nc := o.nc
  cf := o.cf
  xat := fun _ _ z => by rw [hex] at z; cases z
  k2 := o.k2
  bl := o.bl
  cst := o.cst
  ln := o.ln
theorem XOk.suiteN (o : XOk F T k O np G X W) (a : Addr) (pn : List (Addr × Obj)) : XOk F T k O np (G.off none) (X.suite a pn) Wn where
  sx := ⟨o.sx.hK, o.sx.un, o.sx.gd, o.sx.sm⟩
  calm := fun z => nomatch z
  hN := o.hN
  nd := o.nd
  sc := o.sc
  fn := o.fn
  tk := takes_no
  rm := fun z => nomatch z
  sd := fun z => nomatch z
  po := fun z => nomatch z
  hs := fun z => nomatch z
  ft := fun z => nomatch z
  iv := fun _ _ _ _ _ => trivial
  ivc := fun _ _ => trivial
  fns := o.fns
  cls := o.cls
  ini := o.ini
  sub := o.sub
  nc := o.nc
  cf := o.cf
  xat := fun _ _ z => nomatch z
  k2 := o.k2
  bl := o.bl
  cst := o.cst
  ln := o.ln
theorem XOk.suiteX (o : XOk F T k O np G X W) {i c : Nat} {a dd : Addr} {oe : Obj} {pn : List (Addr × Obj)} (hc : c ∈ T.ci) (hz : Zc (.ref (F.ca c)) (some dd) oe) (hf : ∃ vs, oe.data = .fields vs) (hi : i < G.N.length) : XOk F T k O np (G.off (some (i, c))) (X.suite a ((a, oe) :: pn)) (Wx i a dd) where
  sx := ⟨o.sx.hK, o.sx.un, o.sx.gd, o.sx.sm⟩
  calm := fun z => nomatch z
  hN := o.hN
  nd := o.nd
  sc := o.sc
  fn := o.fn
  tk := takes_no
  rm := fun z => nomatch z
  sd := fun z => nomatch z
  po := fun z => nomatch z
  hs := fun z => nomatch z
  ft := fun z => nomatch z
  iv := fun st j v hne h => by
    show (st.set j v)[i]? = _
    rw [List.getElem?_set_ne (fun z => hne (by rw [z]; rfl))]
    exact h
  ivc := fun z => nomatch z
  fns := o.fns
  cls := o.cls
  ini := o.ini
  sub := o.sub
  nc := o.nc
  cf := o.cf
  xat := fun i' c' z => by
    cases z
    refine ⟨dd, rfl, fun x f pos pos2 hN hv h1 h2 hm => ?_⟩
    refine ⟨fun pins s st H Q I ⟨q1, fs, v, q2, q3, q4⟩ => ?_⟩
    by_cases hxi : ∃ j, X.N[j]? = some x ∧ j = i
    · obtain ⟨j, hj, rfl⟩ := hxi
      exact (pe_xf (o.ini c hc).xfc ((o.ini c hc).fld f hm) hz hf (pe_var (X := X.suite a ((a, oe) :: pn)) (pos := pos2) hj hv h1 h2)).run pins s st H Q I ⟨.ref a, q1, rfl, rfl, dd, fs, v, rfl, q2, q3, q4⟩
    · exact absurd ⟨i, hN, rfl⟩ hxi
  k2 := o.k2
  bl := o.bl
  cst := o.cst
  ln := o.ln
/-- the clauses' suites, as they are run -/
def mkCls (F : Fx) (O : Om) : Hs → List Cls
  | .nil => []
  | .cons c io b hs => ⟨.ref (F.ca c), io, fun a cv d D st H => match io with
    | none => TSr F Wn (fun en S => exS O b en S) D st H
    | some i => ∃ dd, cv = .ref (F.ca c) ∧ d = some dd ∧ TSr F (Wx i a dd) (fun en S => exS O b en S) D st H⟩ :: mkCls F O hs
theorem set_len {α : Type} (l : List α) (i : Nat) (x : α) : (l.set i x).length = l.length := List.length_set ..
/-- the slots with the exception in hand -/
theorem en_exc {c i dd : Nat} {a : Addr} {fs : List Val} {ws : List V} (e : En F J r en st) (hl : en.length = st.length) (hi : i < st.length) (hd : J dd = some (.xd ((F.cf c).zip ws))) (t : Reps F J r fs ws) :
    EnW F (Wx i a dd) J r (en.set i none ++ [some (.exc c fs)]) (st.set i (some (.ref a))) := by
  refine ⟨fun j x h => ?_, List.getElem?_set_self hi⟩
  by_cases hj : j < en.length
  · rw [List.getElem?_append_left (by rw [set_len]; exact hj)] at h
    by_cases hij : i = j
    · subst hij
      rw [List.getElem?_set_self hj] at h
      cases h
    · rw [List.getElem?_set_ne hij] at h
      obtain ⟨v, g1, g2⟩ := e j x h
      refine ⟨v, ?_, g2⟩
      unfold WS.st
      rw [List.getElem?_append_left (by rw [set_len]; omega), List.getElem?_set_ne hij]
      exact g1
  · rw [List.getElem?_append_right (by rw [set_len]; omega), set_len] at h
    have hz : j - en.length = 0 := by
      have := (List.getElem?_eq_some_iff.mp h).1
      simp at this
      omega
    rw [hz] at h
    cases h
    refine ⟨.ref dd, ?_, .exc hd t⟩
    unfold WS.st
    rw [List.getElem?_append_right (by rw [set_len]; omega), set_len]
    have : j - st.length = 0 := by omega
    rw [this]
    rfl
theorem PoL.out {i dd : Nat} {a : Addr} {x : Fl} (hsd : W.sd = []) (hiv : ∀ st, W.iv st) (p : PoL F W n H J r (x.out n i) D) : PoL F (Wx i a dd) n H J r x (goneD i D) := by
  cases x with
  | nx en' S' =>
    intro st' H' J' r' a1 a2 a3 a4 a5
    refine p (st'.set i none) H' J' r' (by rw [set_len]; exact a1) a2 a3 ⟨?_, hiv _⟩ ?_
    · have ln : en'.length = n + 1 := by rw [a5, WS.len, a1]; rfl
      intro j y h
      have hst : W.st (st'.set i none) = st'.set i none := by rw [WS.st, hsd]; simp
      rw [hst]
      by_cases hij : i = j
      · subst hij
        by_cases hin : i < (en'.take n).length
        · rw [List.getElem?_set_self hin] at h; cases h
        · rw [List.getElem?_eq_none (by rw [set_len]; omega)] at h; cases h
      · rw [List.getElem?_set_ne hij] at h ⊢
        rw [List.getElem?_take] at h
        split at h
        · rename_i hjn
          obtain ⟨v, g1, g2⟩ := a4.en j y h
          unfold WS.st at g1
          rw [List.getElem?_append_left (by omega)] at g1
          exact ⟨v, g1, g2⟩
        · cases h
    · rw [set_len, List.length_take, a5, WS.len, WS.len, set_len, a1, hsd]
      simp
  | rt v S' => exact p
  | ex c fs en' S' => exact p.elim
  | stk => exact p.elim
theorem PoL.noX {x : Fl} (hsd : W.sd = []) (hiv : ∀ st, W.iv st) (p : PoL F W n H J r x.noX D) : PoL F Wn n H J r x D := by
  have conv : ∀ {J r en st}, EnW F Wn J r en st → EnW F W J r en st := fun {J r en st} e => ⟨by
    have h1 : W.st st = st := by rw [WS.st, hsd]; simp
    have h2 : Wn.st st = st := by simp [WS.st, Wn]
    rw [h1, ← h2]
    exact e.en, hiv _⟩
  cases x with
  | nx en' S' => exact fun st' H' J' r' a1 a2 a3 a4 a5 => p st' H' J' r' a1 a2 a3 (conv a4) (by rw [a5, WS.len, WS.len, hsd]; rfl)
  | rt v S' => exact p
  | ex c fs en' S' => exact p.elim
  | stk => exact p.elim
def hsC : Hs → List Nat
  | .nil => []
  | .cons c _ _ hs => c :: hsC hs
def hsI : Hs → List Nat
  | .nil => []
  | .cons _ (some i) _ hs => i :: hsI hs
  | .cons _ none _ hs => hsI hs
theorem wAll_ok (o : XOk F T k O np G X W) (hcm : G.calm = true) {c : Nat} {fs : List Val} {ws : List V} {dd : Addr} (hc : c < O.nc) (hn : st.length = G.N.length) (w : Wo F H J r S) (e : EnW F W J r en st) (hl : en.length = (W.st st).length) (hd : J dd = some (.xd ((F.cf c).zip ws))) (t : Reps F J r fs ws) :
    ∀ hs : Hs, (∀ c', c' ∈ hsC hs → c' < T.cl.length) → (∀ i, i ∈ hsI hs → i < G.N.length) → PoL F W st.length H J r (exH O hs c fs en S) D → wAll X.K W.w D (mkCls F O hs) (.ref (F.ca c)) (some dd) st H
  | .nil, _, _, p => by
    unfold exH at p
    exact p st H J r dd ws rfl w Le.refl e hl hd t
  | .cons c' io b hs, h1, h2, p => by
    have hsd := o.sd hcm
    have hiv := o.ivc hcm
    have hst : W.st st = st := by rw [WS.st, hsd]; simp
    have e0 : En F J r en st := by rw [← hst]; exact e.en
    have hl0 : en.length = st.length := by rw [hl, hst]
    unfold exH at p
    refine ⟨O.sub c c', o.sub c c' (by rw [← o.nc]; exact hc) (h1 c' (List.mem_cons_self ..)), fun hy a ha => ?_, fun hn' => ?_⟩
    · rw [if_pos hy] at p
      cases io with
      | none =>
        refine ⟨en, S, J, r, w, ⟨?_, trivial⟩, ?_, PoL.noX hsd hiv p⟩
        · rw [show Wn.st st = st by simp [WS.st, Wn]]; exact e0
        · rw [hl0, WS.len]; rfl
      | some i =>
        dsimp only at p
        split at p
        · rename_i hcc
          subst hcc
          have hi : i < st.length := by rw [hn]; exact h2 i (by simp [hsI])
          refine ⟨dd, rfl, rfl, _, S, J, r, w, en_exc (a := a) e0 hl0 hi hd t, ?_, ?_⟩
          · rw [List.length_append, set_len, hl0, WS.len, set_len]; rfl
          · rw [hl0] at p
            rw [set_len]
            exact PoL.out hsd hiv p
        · exact p.elim
    · rw [if_neg (by rw [hn']; decide)] at p
      exact wAll_ok o hcm hc hn w e hl hd t hs (fun c h => h1 c (List.mem_cons_of_mem _ h)) (fun i h => h2 i (by
        cases io with
        | none => exact h
        | some j => exact List.mem_cons_of_mem _ h)) p
end
end GW
/-! Core 20: the check of statements. -/
namespace GW
open PySem L2
def isFnS (sc : Scope) : Bool := match sc.kind with
  | .function => true
  | _ => false
def isLoc (sc : Scope) (x : Str) : Bool := match sc.names.lookup x with
  | some .local => true
  | _ => false
theorem isLoc_ok {sc : Scope} {x : Str} (h : isLoc sc x = true) : sc.names.lookup x = some .local := by
  unfold isLoc at h
  split at h
  · assumption
  · cases h
theorem isFnS_ok {sc : Scope} (h : isFnS sc = true) : sc.kind = .function := by
  unfold isFnS at h
  split at h
  · assumption
  · cases h
/-- whether a comprehension's list goes straight to the name -/
def swB (sc : Scope) (y : Str) (p : Pos) (scope : Scope) (p2 : Pos) : Bool := isLoc sc y && (p.line == p2.line) && !(scope.names.any fun (n, k) => n == y && (k == .local || k == .cell))
theorem sw_lc {env : Env} {y : Str} {p p2 : Pos} {elt : Expr} {gs : List Comprehension} {scope : Scope} {l : Nat} (hk : isFnS env.scope = true) :
    swapsWith (.ListComp elt gs scope p2) (some (.Name y p)) l env = pure (swB env.scope y p scope p2) := by
  have hk' := isFnS_ok hk
  have hb : env.blockKind = .function := by unfold Env.blockKind; rw [hk']; rfl
  unfold swapsWith swB
  simp only [hb, Expr.pos]
  have e : (env.kindOf y == some NameKind.local) = isLoc env.scope y := by
    unfold isLoc Env.kindOf
    cases env.scope.names.lookup y with
    | none => rfl
    | some k => cases k <;> rfl
  rw [e]
  rfl
def notTup (x : Expr) : Bool := match x with
  | .Tuple .. => false
  | _ => true
theorem sw_stores {x : Expr} (h : notTup x = true) (es : List Expr) (kk : Nat) (p : Pos) (env : Env) : swappedStores [.Tuple es kk p] x env = pure none := by
  cases x <;> first | rfl | (cases h; done)
theorem sw_sole {x : Expr} (h : okSw x = true) (t : Expr) (l : Nat) (env : Env) : swapsWithSole [t] x l env = pure false := okSw_no h _ _ _
theorem sw_par {env : Env} {x y : Str} {px py pt p2 : Pos} {kt k2 : Nat} {a b : Expr} (hk : isFnS env.scope = true) (hx : isLoc env.scope x = true) (hy : isLoc env.scope y = true) (hl : (py.line == px.line) = true) (hne : x ≠ y) (ha : okX a = true) (hb : okX b = true)
    (h1 : ([a, b].all (foldedForSure 8)) = false) (h2 : ([a, b].all (constantsAlone 8)) = false) : swappedStores [.Tuple [.Name x px, .Name y py] kt pt] (.Tuple [a, b] k2 p2) env = pure (some [x, y]) := by
  have hk' := isFnS_ok hk
  have hbk : env.blockKind = .function := by unfold Env.blockKind; rw [hk']; rfl
  have ex : env.kindOf x = some .local := isLoc_ok hx
  have ey : env.kindOf y = some .local := isLoc_ok hy
  have hs : ([a, b].any fun | .Starred .. => true | _ => false) = false := by
    cases a <;> first | (cases ha; done) | (cases b <;> first | rfl | (cases hb; done))
  unfold swappedStores
  have hd : [x, y].eraseDups = [x, y] := by
    rw [List.eraseDups_cons]
    have : ([y].filter fun b => !b == x) = [y] := by simp [Ne.symm hne]
    rw [this]
    rfl
  simp only [hbk, List.length_cons, List.length_nil, hs, List.head?_cons, Option.map_some, Option.getD_some, Expr.pos, List.filterMap_cons, List.filterMap_nil, ex, ey, hl]
  simp [hd, h1, h2]
  intro h
  rcases h with h | h
  · cases a <;> first | (cases ha; done) | (cases h; done)
  · cases b <;> first | (cases hb; done) | (cases h; done)
/-! ### the check -/
def notLc (e : E) : Bool := match e with
  | .lc .. => false
  | _ => true
/-- the value does not go straight to the name -/
def swNo (G : Ck) (y : Str) (p : Pos) (v : Expr) : Bool := match v with
  | .ListComp _ _ scope p2 => isFnS G.sc && !(swB G.sc y p scope p2)
  | _ => okSw v
mutual
def ckT (T : Tab) : Ck → C → Stmt → Bool
  | G, .set i e, x => (match x with
    | .Assign [.Name y p] v _ => G.loc i y && ckE T G e v && (swNo G y p v || (match e, v with
      | .lc b t it cs e', .ListComp elt [⟨tg, iter, ifs, 0⟩] scope p2 => isFnS G.sc && swB G.sc y p scope p2
      | _, _ => false))
    | _ => false)
  | G, .tset is e, x => (match x with
    | .Assign [.Tuple es _ _] v _ => okGs G is es && ckE T G e v && notTup v && okSw v && G.calm
    | _ => false)
  | G, .par i j a b, x => (match x with
    | .Assign [.Tuple [.Name y p, .Name y' p'] _ _] (.Tuple [l, r] _ _) _ => decide (G.N[i]? = some y) && decide (G.N[j]? = some y') && decide (i ≠ j) && decide (y ≠ y') && isLoc G.sc y && isLoc G.sc y' && isFnS G.sc && (p'.line == p.line) && okX l && okX r &&
        !([l, r].all (foldedForSure 8)) && !([l, r].all (constantsAlone 8)) && ckE T G a l && ckE T G b r && G.calm
    | _ => false)
  | G, .sset a i e, x => (match x with
    | .Assign [.Subscript l r _] v _ => ckE T G e v && ckE T G a l && ckE T G i r && okX r && okSw v
    | _ => false)
  | G, .exp e, x => (match x with
    | .Expr v _ => ckE T G e v && okSw v
    | _ => false)
  | G, .ret e, x => (match x with
    | .Return (some v) _ => ckE T G e v
    | _ => false)
  | G, .retN, x => (match x with
    | .Return none _ => true
    | _ => false)
  | G, .ife c a b, x => (match x with
    | .If t xs ys _ => ckE T G c t && okT t && ckB T G a xs && ckB T G b ys
    | _ => false)
  | G, .whl c b, x => (match x with
    | .While t xs [] _ => ckE T G c t && okT t && ckB T G b xs && G.top
    | _ => false)
  | G, .forr t it b, x => (match x with
    | .For tg iter xs [] _ => okTg G t tg && okX iter && ckI T G it tg iter && ckB T G b xs && G.top && G.calm
    | _ => false)
  | G, .rai c es, x => (match x with
    | .Raise (some (.Call (.Name m _) (y :: ys) [] _)) none _ => decide (c ∈ T.ci) && decide (T.cl[c]? = some m) && G.glo m && !(m == ("__debug__" : Str)) && okXs (y :: ys) && decide (es.len ≤ 1000) && decide (es.len = (T.cf.getD c []).length) && ckS T G es (y :: ys) && G.calm
    | _ => false)
  | G, .tri b hs, x => (match x with
    | .Try xs (h :: hds) [] [] _ => ckB T G b xs && ckH T G hs (h :: hds) && G.top && G.calm && (match G.ex with
      | none => true
      | _ => false)
    | _ => false)
  | G, .pas, x => (match x with
    | .Pass _ => true
    | _ => false)
def ckB (T : Tab) : Ck → Cs → List Stmt → Bool
  | G, .nil, xs => (match xs with
    | [] => true
    | _ => false)
  | G, .cons c cs, xs => (match xs with
    | x :: xs => ckT T G c x && ckB T G cs xs
    | _ => false)
def ckH (T : Tab) : Ck → Hs → List ExceptHandler → Bool
  | G, .nil, xs => (match xs with
    | [] => true
    | _ => false)
  | G, .cons c io b hs, xs => (match xs with
    | .ExceptHandler (some (.Name m _)) on (y :: ys) _ :: xs => decide (T.cl[c]? = some m) && G.glo m && !(m == ("__debug__" : Str)) && (match on, io with
      | none, none => ckB T (G.off none) b (y :: ys)
      | some z, some i => decide (G.N[i]? = some z) && isLoc G.sc z && decide (c ∈ T.ci) && ckB T (G.off (some (i, c))) b (y :: ys)
      | _, _ => false) && ckH T G hs xs
    | _ => false)
end
end GW
/-! Core 21: the check is right (statements). -/
namespace GW
open PySem L2
section
variable {F : Fx} {T : Tab} {k : Nat} {np : Nat → Nat} {O : Om}
abbrev OkT (F : Fx) (T : Tab) (k : Nat) (np : Nat → Nat) (O : Om) (c : C) : Prop := ∀ {G : Ck} {X : Cx} {W : WS} {x : Stmt}, XOk F T k O np G X W → ckT T G c x = true → PS X x (TSr F W fun en S => exC O c en S)
abbrev OkB (F : Fx) (T : Tab) (k : Nat) (np : Nat → Nat) (O : Om) (cs : Cs) : Prop := ∀ {G : Ck} {X : Cx} {W : WS} {xs : List Stmt}, XOk F T k O np G X W → ckB T G cs xs = true → PSs X xs (TSr F W fun en S => exS O cs en S)
abbrev OkH (F : Fx) (T : Tab) (k : Nat) (np : Nat → Nat) (O : Om) (hs : Hs) : Prop := ∀ {G : Ck} {X : Cx} {W : WS} {xs : List ExceptHandler}, XOk F T k O np G X W → ckH T G hs xs = true → HdsA X xs (mkCls F O hs) ∧ (∀ c', c' ∈ hsC hs → c' < T.cl.length) ∧ ∀ i, i ∈ hsI hs → i < G.N.length
theorem swNo_ok {G : Ck} {X : Cx} {W : WS} (o : XOk F T k O np G X W) {y : Str} {p : Pos} {v : Expr} {l : Nat} (h : swNo G y p v = true) : swapsWith v (some (.Name y p)) l X.env = pure false := by
  unfold swNo at h
  split at h
  · simp only [Bool.and_eq_true, Bool.not_eq_true'] at h
    rw [sw_lc (by rw [o.sc]; exact h.1), o.sc, h.2]
  · exact okSw_no h _ _ _
theorem st_setLc {G : Ck} {X : Cx} {W : WS} {spos p2 py : Pos} {y : Str} {tg : Expr} (o : XOk F T k O np G X W) (hcm : G.calm = true) (bb : Bool) (t : Tg) {elt iter : Expr} {ifs : List Expr} {scope : Scope} {own : List (Str × Nat)} {fi : Enm → Store → Res Wk} {fc : Enm → Store → Res Bool} {fe : Enm → Store → Res Val} {i : Nat}
    (hy : G.loc i y = true) (hf : isFnS G.sc = true) (hs : swB G.sc y py scope p2 = true) (hb : blkC G.N G.sc scope own = true) (hw : (((own.map (·.2)).all fun i => t.ixs.contains i) && (t.ixs.all fun i => (own.map (·.2)).contains i)) = true) (hx : okX iter = true) (htg : okTg (G.blk scope) t tg = true)
    (hi : PI X tg iter (TW F W fi)) (hc : ∀ X', XOk F T k O np (G.blk scope) X' W0 → PTs X' ifs (TB F W0 fc)) (he : ∀ X', XOk F T k O np (G.blk scope) X' W0 → PE X' elt (TT F W0 fe)) :
    PS X (.Assign [.Name y py] (.ListComp elt [⟨tg, iter, ifs, 0⟩] scope p2) spos) (TSr F W fun en S => ((fi en S).bind fun wk S1 => (lcF wk.cs wk.xs t fc fe en wk.its [] S1).bind fun ys S2 => mkL bb ys S2).to en fun v S1 => .nx (en.set i (some v)) S1) := by
  obtain ⟨h1, h2⟩ := blkC_ws hw
  have ok : BlkOk X.N X.env.scope scope own := by rw [o.hN, o.sc]; exact blkOk_by hb
  have tgo := fun s H C cl fp => okTg_ok (o.blk s H scope C cl fp) hcm htg
  obtain ⟨⟨q1, q2, q3⟩, q4⟩ := o.loc' hy
  have hl : X.env.scope.names.lookup y = some .local := by
    rw [o.sc]
    unfold swB at hs
    simp only [Bool.and_eq_true] at hs
    exact isLoc_ok hs.1.1
  have sw : swapsWith (.ListComp elt [⟨tg, iter, ifs, 0⟩] scope p2) (some (.Name y py)) spos.line X.env = pure true := by rw [sw_lc (by rw [o.sc]; exact hf), o.sc, hs]
  refine TS.len (fun D st H hn q => ?_) (ps_setLc (g := gTg X.K t) (o.calm hcm) o.nd' q1 hl sw hi ok (fun s H C cl fp => (tgo s H C cl fp).1) (fun s H C cl fp => hc _ (o.blk s H scope C cl fp)) (fun s H C cl fp => he _ (o.blk s H scope C cl fp)) (okX_fold hx _))
  have hlt : i < st.length := by rw [hn]; exact (List.getElem?_eq_some_iff.mp q1).1
  exact tlc_ok o.sx.hK (o.sd hcm) bb t h1 h2 (fun i hi => by rw [hn, o.hN]; exact (tgo X.s_0 (fun _ => none) 0 [] []).2 i hi) (TT.mono (fun v H1 ⟨en, J1, r1, S1, x, e1, hl, w1, kx, p1⟩ => PoL.put o w1 e1 hl kx hlt q4 p1) (TSr.ofE (g := fun en v S1 => .nx (en.set i (some v)) S1) q))
theorem ok_set (hO : O.nf = T.fn.length) (i : Nat) (e : E) : OkT F T k np O (.set i e) := fun {G X W x} xo h => by
  unfold ckT at h
  split at h
  · simp only [Bool.and_eq_true, Bool.or_eq_true] at h
    obtain ⟨⟨h1, h2⟩, h3 | h3⟩ := h
    · exact st_set xo h1 (okE hO e xo h2).pe (swNo_ok xo h3)
    · split at h3
      · rename_i b t it cs e' elt tg iter ifs scope p2
        unfold ckE at h2
        simp only [Bool.and_eq_true] at h2 h3
        obtain ⟨⟨⟨⟨⟨⟨⟨g1, g2⟩, g3⟩, g4⟩, g5⟩, g6⟩, g7⟩, g8⟩ := h2
        exact st_setLc xo g1 b t h1 h3.1 h3.2 g2 (by unfold okWs at g3; simpa using g3) g4 g5 (okI hO it xo g6) (fun X' xo' => okC hO cs xo' g7) fun X' xo' => (okE hO e' xo' g8).pe
      · cases h3
  · cases h
theorem ok_tset (hO : O.nf = T.fn.length) (is : List Nat) (e : E) : OkT F T k np O (.tset is e) := fun {G X W x} xo h => by
  unfold ckT at h
  split at h
  · simp only [Bool.and_eq_true] at h
    obtain ⟨⟨⟨⟨h1, h2⟩, h3⟩, h4⟩, h5⟩ := h
    exact st_tset xo h5 h1 (okE hO e xo h2).pe (sw_sole h4 _ _ _) (sw_stores h3 _ _ _ _)
  · cases h
theorem ok_par (hO : O.nf = T.fn.length) (i j : Nat) (a b : E) : OkT F T k np O (.par i j a b) := fun {G X W x} xo h => by
  unfold ckT at h
  split at h
  · simp only [Bool.and_eq_true, decide_eq_true_eq, Bool.not_eq_true'] at h
    obtain ⟨⟨⟨⟨⟨⟨⟨⟨⟨⟨⟨⟨⟨⟨h1, h2⟩, h3⟩, h4⟩, h5⟩, h6⟩, h7⟩, h8⟩, h9⟩, h10⟩, h11⟩, h12⟩, h13⟩, h14⟩, h15⟩ := h
    exact st_par xo h15 h1 h2 h3 (isLoc_ok h5) (isLoc_ok h6) (okE hO a xo h13).pe (okE hO b xo h14).pe h9 h10 (sw_par (by rw [xo.sc]; exact h7) (by rw [xo.sc]; exact h5) (by rw [xo.sc]; exact h6) h8 h4 h9 h10 h11 h12)
  · cases h
theorem ok_sset (hO : O.nf = T.fn.length) (a i e : E) : OkT F T k np O (.sset a i e) := fun {G X W x} xo h => by
  unfold ckT at h
  split at h
  · simp only [Bool.and_eq_true] at h
    obtain ⟨⟨⟨⟨h1, h2⟩, h3⟩, h4⟩, h5⟩ := h
    exact st_sset xo (okE hO e xo h1).pe (okE hO a xo h2).pe (okE hO i xo h3).pe h4 (okSw_no h5 _ _ _)
  · cases h
theorem ok_exp (hO : O.nf = T.fn.length) (e : E) : OkT F T k np O (.exp e) := fun {G X W x} xo h => by
  unfold ckT at h
  split at h
  · simp only [Bool.and_eq_true] at h
    exact st_exp (okE hO e xo h.1).pe (okSw_no h.2 _ _ _)
  · cases h
theorem ok_ret (hO : O.nf = T.fn.length) (e : E) : OkT F T k np O (.ret e) := fun {G X W x} xo h => by
  unfold ckT at h
  split at h
  · exact st_ret (okE hO e xo h).pe
  · cases h
theorem ok_retN : OkT F T k np O .retN := fun {G X W x} xo h => by
  unfold ckT at h
  split at h
  · exact st_retN
  · cases h
theorem ok_pas : OkT F T k np O .pas := fun {G X W x} xo h => by
  unfold ckT at h
  split at h
  · exact st_pas
  · cases h
theorem ok_sif (hO : O.nf = T.fn.length) (c : E) {a b : Cs} (ha : OkB F T k np O a) (hb : OkB F T k np O b) : OkT F T k np O (.ife c a b) := fun {G X W x} xo h => by
  unfold ckT at h
  split at h
  · simp only [Bool.and_eq_true] at h
    obtain ⟨⟨⟨h1, h2⟩, h3⟩, h4⟩ := h
    exact st_if ((okE hO c xo h1).pt h2) (ha xo h3) (hb xo h4)
  · cases h
theorem ok_whl (hO : O.nf = T.fn.length) (c : E) {b : Cs} (hb : OkB F T k np O b) : OkT F T k np O (.whl c b) := fun {G X W x} xo h => by
  unfold ckT at h
  split at h
  · simp only [Bool.and_eq_true] at h
    obtain ⟨⟨⟨h1, h2⟩, h3⟩, h4⟩ := h
    exact st_whl xo h4 O.fu ((okE hO c xo h1).pt h2) (hb xo h3)
  · cases h
theorem ok_for (hO : O.nf = T.fn.length) (t : Tg) (it : It) {b : Cs} (hb : OkB F T k np O b) : OkT F T k np O (.forr t it b) := fun {G X W x} xo h => by
  unfold ckT at h
  split at h
  · simp only [Bool.and_eq_true] at h
    obtain ⟨⟨⟨⟨⟨h1, h2⟩, h3⟩, h4⟩, h5⟩, h6⟩ := h
    exact st_for xo h6 h5 t h1 h2 (okI hO it xo h3) (hb xo h4)
  · cases h
theorem ok_rai (hO : O.nf = T.fn.length) (c : Nat) (es : Es) : OkT F T k np O (.rai c es) := fun {G X W x} xo h => by
  unfold ckT at h
  split at h
  · simp only [Bool.and_eq_true, decide_eq_true_eq, Bool.not_eq_true'] at h
    obtain ⟨⟨⟨⟨⟨⟨⟨⟨h1, h2⟩, h3⟩, h4⟩, h5⟩, h6⟩, h7⟩, h8⟩, h9⟩ := h
    exact st_rai xo h9 h1 h2 h3 h4 (by simpa using h5) h6 (by rw [xo.cf]; exact h7) (fun en S xs S' z => evs_len z) (okS hO es xo h8)
  · cases h
theorem ok_tri {b : Cs} {hs : Hs} (hb : OkB F T k np O b) (hh : OkH F T k np O hs) : OkT F T k np O (.tri b hs) := fun {G X W x} xo h => by
  unfold ckT at h
  split at h
  · simp only [Bool.and_eq_true] at h
    obtain ⟨⟨⟨⟨h1, h2⟩, h3⟩, h4⟩, h5⟩ := h
    have hex : G.ex = none := by
      split at h5
      · assumption
      · cases h5
    obtain ⟨q1, q2, q3⟩ := hh xo h2
    obtain ⟨hst, hfr⟩ := xo.hs h3
    have hsd := xo.sd h4
    have hiv := xo.ivc h4
    refine TS.len (fun D st H hn q => ?_) (ps_tryA (tb := fun W' => TSr F ⟨W', [], fun _ => True⟩ fun en S => exS O b en S) xo.nd' hst hfr xo.tk (fun W' pn xe tk po => hb (xo.tr pn xe hsd hiv h3 tk po hex) h1) q1)
    obtain ⟨en, S, J, r, w, e, hl, p⟩ := q
    have conv : ∀ {J r en st} {W' : WX}, EnW F ⟨W', [], fun _ => True⟩ J r en st → EnW F W J r en st := fun {J r en st W'} e => ⟨by
      have z1 : W.st st = st := by rw [WS.st, hsd]; simp
      have z2 : WS.st ⟨W', [], fun _ => True⟩ st = st := by simp [WS.st]
      rw [z1, ← z2]
      exact e.en, hiv _⟩
    refine ⟨en, S, J, r, w, ⟨?_, trivial⟩, by rw [hl, WS.len, WS.len, hsd], ?_⟩
    · have z1 : W.st st = st := by rw [WS.st, hsd]; simp
      have z2 : ∀ W' : WX, WS.st ⟨W', [], fun _ => True⟩ st = st := fun W' => by simp [WS.st]
      rw [z2, ← z1]
      exact e.en
    · replace p : PoL F W st.length H J r (match exS O b en S with
        | .ex c fs en' S' => if c < O.nc then exH O hs c fs en' S' else .stk
        | o => o) D := p
      show PoL F _ _ H J r (exS O b en S) D
      cases h7 : exS O b en S with
      | nx en' S' =>
        rw [h7] at p
        exact fun st' H' J' r' a1 a2 a3 a4 a5 => p st' H' J' r' a1 a2 a3 (conv a4) (by rw [a5, WS.len, WS.len, hsd])
      | rt v S' => rw [h7] at p; exact p
      | stk => rw [h7] at p; exact p
      | ex c fs en' S' =>
        rw [h7] at p
        intro st' H' J' r' d ws a1 a2 a3 a4 a5 a6 a7
        dsimp only at p
        split at p
        · rename_i hc
          exact wAll_ok xo h4 hc (by rw [a1, hn, xo.hN]) a2 (conv a4) (by rw [a5, WS.len, WS.len, hsd]) a6 a7 hs q2 q3 (by rw [a1]; exact p.le a3)
        · exact p.elim
  · cases h
theorem ok_bnil : OkB F T k np O .nil := fun {G X W xs} xo h => by
  unfold ckB at h
  split at h
  · exact st_nil
  · cases h
theorem ok_bcons {c : C} {cs : Cs} (hc : OkT F T k np O c) (hs : OkB F T k np O cs) : OkB F T k np O (.cons c cs) := fun {G X W xs} xo h => by
  unfold ckB at h
  split at h
  · simp only [Bool.and_eq_true] at h
    exact st_cons (hc xo h.1) (hs xo h.2)
  · cases h
theorem ok_hnil : OkH F T k np O .nil := fun {G X W xs} xo h => by
  unfold ckH at h
  split at h
  · exact ⟨.nil, fun c z => by simp [hsC] at z, fun i z => by simp [hsI] at z⟩
  · cases h
theorem ok_hcons (c : Nat) (io : Option Nat) {b : Cs} {hs : Hs} (hb : OkB F T k np O b) (hh : OkH F T k np O hs) : OkH F T k np O (.cons c io b hs) := fun {G X W xs} xo h => by
  unfold ckH at h
  split at h
  · rename_i m p1 on y ys p2 xs
    simp only [Bool.and_eq_true, decide_eq_true_eq, Bool.not_eq_true'] at h
    obtain ⟨⟨⟨⟨h1, h2⟩, h3⟩, h4⟩, h5⟩ := h
    obtain ⟨q1, q2, q3⟩ := hh xo h5
    have nm : Names X m (.ref (F.ca c)) := ⟨xo.glo h2, h3, .inl (xo.cls c m h1)⟩
    have hc : c < T.cl.length := (List.getElem?_eq_some_iff.mp h1).1
    have q2' : ∀ c', c' ∈ hsC (.cons c io b hs) → c' < T.cl.length := fun c' z => by
      rcases List.mem_cons.mp z with rfl | z
      · exact hc
      · exact q2 c' z
    split at h4
    · refine ⟨.cons (q := ⟨.ref (F.ca c), none, _⟩) nm trivial (fun a oe cv d pn _ _ => hb (xo.suiteN a ((a, oe) :: pn)) h4) q1, q2', q3⟩
    · rename_i z i
      simp only [Bool.and_eq_true, decide_eq_true_eq] at h4
      obtain ⟨⟨⟨g1, g2⟩, g3⟩, g4⟩ := h4
      have hi : i < G.N.length := (List.getElem?_eq_some_iff.mp g1).1
      refine ⟨.cons (q := ⟨.ref (F.ca c), some i, _⟩) nm ⟨by rw [xo.hN]; exact g1, by show X.env.scope.names.lookup z = _; rw [xo.sc]; exact isLoc_ok g2⟩ (fun a oe cv d pn hz hf => ?_) q1, q2', fun j z => ?_⟩
      · refine ⟨fun pins s st H D I ⟨dd, e1, e2, q⟩ => ?_⟩
        subst e1
        subst e2
        exact (hb (xo.suiteX (a := a) g3 hz hf hi) g4).run pins s st H D I q
      · rcases List.mem_cons.mp z with rfl | z
        · exact hi
        · exact q3 j z
    · cases h4
  · cases h
mutual
theorem okT' (hO : O.nf = T.fn.length) : ∀ c : C, OkT F T k np O c
  | .set i e => ok_set hO i e
  | .tset is e => ok_tset hO is e
  | .par i j a b => ok_par hO i j a b
  | .sset a i e => ok_sset hO a i e
  | .exp e => ok_exp hO e
  | .ret e => ok_ret hO e
  | .retN => ok_retN
  | .ife c a b => ok_sif hO c (okB hO a) (okB hO b)
  | .whl c b => ok_whl hO c (okB hO b)
  | .forr t it b => ok_for hO t it (okB hO b)
  | .rai c es => ok_rai hO c es
  | .tri b hs => ok_tri (okB hO b) (okH hO hs)
  | .pas => ok_pas
theorem okB (hO : O.nf = T.fn.length) : ∀ cs : Cs, OkB F T k np O cs
  | .nil => ok_bnil
  | .cons c cs => ok_bcons (okT' hO c) (okB hO cs)
theorem okH (hO : O.nf = T.fn.length) : ∀ hs : Hs, OkH F T k np O hs
  | .nil => ok_hnil
  | .cons c io b hs => ok_hcons c io (okB hO b) (okH hO hs)
end
end
end GW
/-! Core 22: the text's defs keep what the core text computes. -/
namespace GW
open PySem L2
section
variable {P : Program} {w : World} {K : PySem.W.Frag} {mg : Str → Option Value} {base : Heap}
/-- a def by its body, under a room without guards -/
theorem fnG_of {k : Nat} {f : Addr} {fd : FuncData} {x qual : Str} {params : Arguments} {body : List Stmt} {scope : Scope} {N ps : List Str} {sp : Sp} {kws : List (Str × V)} (F : FunD K x qual params body scope [] kws f fd) (S : FnScope N ps scope) (len : ∀ vs H Q E, sp vs H Q E → vs.length = ps.length)
    (hb : ∀ (cdv : Value) (A : Around) (outer : List Env) (s : Shared) (H : Hp) (vs : List V) (Q : VK) (E : XK), Room k (A.deeper (PyProof.Rows.envOfC qual scope s.heap.objs.size f cdv)) → A.guards = some [] → sp vs H Q E →
      ∃ t, PSs (cxOf (L2.CX P w) P w K mg base N qual scope f cdv A outer s H E) body t ∧ t { nx := fun _ H' => Q .non H', rt := Q } (start N vs) H) : FnG P w K mg base (k + 1) f fd ps sp := by
  obtain ⟨oc, od, dV, kV, doc, pm, an, cdv, ct, osl, rfl, lk, hcd, _, _⟩ := F.ex
  refine ⟨fun A outer s H args us vs Q E hr gd e0 bd rv hsp => ?_⟩
  have hl := len _ _ _ _ hsp
  have KX : K.In s.heap := e0.mod.kin.keeps fun b o e => (e0.bs b o e).1
  have lim : s.heap.NoLimit := e0.mod.nolimit.keeps fun b o e => (e0.bs b o e).1
  have kinds : ∀ y ∈ ps.zip us, scope.names.lookup y.1 = some .local ∨ (scope.names.lookup y.1 = some .cell ∧ ((cellsFrom (s.heap.objs.size + 1) scope.names []).lookup y.1).isSome = true) := by
    rintro ⟨n, v⟩ hy
    exact (S.par n (List.of_mem_zip hy).1).imp id fun q => ⟨q, PySem.W.cellsFrom_some _ _ _ (.inl q)⟩
  refine codeAny_call_function hr.depth (KX _ _ lk) rfl S.co S.gen rfl (PySem.W.codeRec_of KX hcd) (bd _ _ _ _ ?_)
  refine wpAny_newFunctionEnv_cells S.kind kinds fun env he s1 ic => ?_
  subst he
  refine ⟨lim.keeps ic.toInCall.keep, codeAny_func ?_⟩
  obtain ⟨t, ht, hq⟩ := hb cdv A outer s H vs Q E (hr.deeper _) gd hsp
  have I := inv_start (CX := L2.CX P w) (E := E) S hr.hd e0 hl rv ic
  refine wpAny_mono (ht.run [] s1 (start N vs) H _ I hq) (fun fl s2 hs => ?_) fun _ _ z => z
  have done_ : ∀ {v : V} {u : Value} {st2 : L2.St} {H2 : Hp}, Inv (cxOf (L2.CX P w) P w K mg base N qual scope f cdv A outer s H E) [] st2 H2 s2 → RelV v u → Q v H2 → CE outer P w H s Q u s2 := fun {v u st2 H2} I2 r2 q2 => ⟨v, H2, I2.os, I2.bare, I2.base, I2.hok, r2, q2⟩
  cases fl with
  | ret u => obtain ⟨v, st2, H2, I2, r2, q2⟩ := hs; exact done_ I2 r2 q2
  | next => obtain ⟨st2, H2, I2, q2⟩ := hs; exact done_ (v := .non) (u := .none) I2 rfl q2
  | brk => obtain ⟨_, _, _, z⟩ := hs; exact z.elim
  | cont => obtain ⟨_, _, _, z⟩ := hs; exact z.elim
end
end GW
/-! Core 23: the program. -/
namespace GW
open PySem L2
/-- a def of the row: where it stands and what it is, its parameters, its names -/
structure Dd where
  d : He.DefD
  ps : List Str
  N : List Str
def scB (N ps : List Str) (sc : Scope) : Bool := isFnS sc && !sc.isCoroutine && !sc.isGenerator && decide N.Nodup && decide (N.take ps.length = ps) && (ps.all fun x => match sc.names.lookup x with
  | some .local => true
  | some .cell => true
  | _ => false) && sc.names.all fun y => match y.2 with
  | .free => false
  | _ => true
theorem scB_ok {N ps : List Str} {sc : Scope} (h : scB N ps sc = true) : FnScope N ps sc := by
  unfold scB at h
  simp only [Bool.and_eq_true, Bool.not_eq_true', decide_eq_true_eq, List.all_eq_true] at h
  obtain ⟨⟨⟨⟨⟨⟨h1, h2⟩, h3⟩, h4⟩, h5⟩, h6⟩, h7⟩ := h
  refine ⟨isFnS_ok h1, h2, h3, h4, h5, fun x hx => ?_, fun y hy e => ?_⟩
  · have := h6 x hx
    split at this
    · exact .inl ‹_›
    · exact .inr ‹_›
    · cases this
  · have := h7 y hy
    rw [e] at this
    cases this
def ddB (T : Tab) (d : Df) (q : Dd) : Bool := decide (d.np = q.ps.length) && decide (d.nn = q.N.length) && scB q.N q.ps q.d.scope && (match q.d.dfl with
  | [] => true
  | _ => false) && ckB T ⟨q.N, q.d.scope, fun _ => true, true, true, none⟩ d.body q.d.body
def ddsB (T : Tab) : List Df → List Dd → Bool
  | [], [] => true
  | d :: ds, q :: qs => ddB T d q && ddsB T ds qs
  | _, _ => false
theorem ddsB_at {T : Tab} : ∀ {ds : List Df} {qs : List Dd}, ddsB T ds qs = true → ds.length = qs.length ∧ ∀ (f : Nat) d q, ds[f]? = some d → qs[f]? = some q → ddB T d q = true
  | [], [], _ => ⟨rfl, fun f d q h => by simp at h⟩
  | [], _ :: _, h => by cases h
  | _ :: _, [], h => by cases h
  | d :: ds, q :: qs, h => by
    obtain ⟨h1, h2⟩ := Bool.and_eq_true_iff.mp (show (ddB T d q && ddsB T ds qs) = true from h)
    obtain ⟨p1, p2⟩ := ddsB_at h2
    refine ⟨congrArg (· + 1) p1, fun f d' q' e1 e2 => ?_⟩
    cases f with
    | zero => simp at e1 e2; subst e1; subst e2; exact h1
    | succ f => exact p2 f d' q' (by simpa using e1) (by simpa using e2)
def npOf (qs : List Dd) (f : Nat) : Nat := match qs[f]? with
  | some q => q.ps.length
  | none => 0
/-- what the written part says of the text -/
structure Says (F : Fx) (T : Tab) (Pr : Pg) (qs : List Dd) (P : Program) (w : World) (K : PySem.W.Frag) (mg : Str → Option Value) (base : Heap) : Prop where
  hK : F.K = K
  ck : ddsB T Pr.defs qs = true
  nf : Pr.defs.length = T.fn.length
  fn : ∀ (f : Nat) q, qs[f]? = some q → (∃ x, T.fn[f]? = some x ∧ mg x = some (.ref (F.fa f))) ∧ ∃ fd, FunD K q.d.name q.d.qual q.d.params q.d.body q.d.scope [] [] (F.fa f) fd ∧ Binds K fd q.ps []
  cls : ∀ c x, T.cl[c]? = some x → mg x = some (.ref (F.ca c))
  ini : ∀ c ∈ T.ci, Ini F P w K mg base c
  sub : ∀ c d, c < T.cl.length → d < T.cl.length → PySem.W.exmOne K (.ref (F.ca c)) (.ref (F.ca d)) = some (Pr.sub c d)
  nc : Pr.nc = T.cl.length
  cf : ∀ c, F.cf c = T.cf.getD c []
  bl : ∀ x ∈ T.bl, mg x = none
  cst : ∀ x v, T.cs.lookup x = some v → CstAt mg x v
  sm : SmK K
section
variable {F : Fx} {T : Tab} {Pr : Pg} {qs : List Dd} {P : Program} {w : World} {K : PySem.W.Frag} {mg : Str → Option Value} {base : Heap}
theorem callN_len (s : Says F T Pr qs P w K mg base) (fu n f : Nat) (xs : List Val) (S : Store) (h : xs.length ≠ npOf qs f) : callN Pr fu n f xs S = .stk := by
  cases n with
  | zero => rfl
  | succ n =>
    unfold callN
    cases hd : Pr.defs[f]? with
    | none => rfl
    | some d =>
      obtain ⟨h1, h2⟩ := ddsB_at s.ck
      have hf : f < qs.length := by rw [← h1]; exact (List.getElem?_eq_some_iff.mp hd).1
      have hq : qs[f]? = some qs[f] := List.getElem?_eq_getElem hf
      have h3 := h2 f d _ hd hq
      unfold ddB at h3
      simp only [Bool.and_eq_true, decide_eq_true_eq] at h3
      have hnp : d.np = npOf qs f := by unfold npOf; rw [hq]; exact h3.1.1.1.1
      simp only [runD]
      rw [if_neg (by rw [hnp]; exact h)]
theorem start_en {W : WS} {J : Hp} {r : List Addr} {d : Df} {xs : List Val} {vs : List V} {N : List Str} (hsd : W.sd = []) (hiv : ∀ st, W.iv st) (t : Reps F J r xs vs) (hn : d.nn = N.length) : EnW F W J r (start0 d xs) (L2.start N vs) := by
  refine ⟨?_, hiv _⟩
  rw [show W.st (L2.start N vs) = L2.start N vs by rw [WS.st, hsd]; simp]
  intro i x h
  unfold start0 at h
  unfold L2.start
  by_cases hi : i < xs.length
  · rw [List.getElem?_append_left (by simpa using hi), List.getElem?_map, Option.map_eq_some_iff] at h
    obtain ⟨y, hy, e⟩ := h
    cases e
    obtain ⟨v, g1, g2⟩ := t.get hy
    exact ⟨v, by rw [List.getElem?_append_left (by rw [List.length_map, t.length]; exact hi), List.getElem?_map, g1]; rfl, g2⟩
  · rw [List.getElem?_append_right (by simpa using hi), List.getElem?_replicate] at h
    split at h <;> cases h
theorem held_of (s : Says F T Pr qs P w K mg base) {fu n k : Nat} (ih : ∀ (f : Nat) (q : Dd) (fd : FuncData), qs[f]? = some q → FunD K q.d.name q.d.qual q.d.params q.d.body q.d.scope [] [] (F.fa f) fd → FnG P w K mg base k (F.fa f) fd q.ps (SpF F (npOf qs f) (callN Pr fu n f)))
    (f : Nat) (x : Str) (hx : T.fn[f]? = some x) : Held1 F P w K mg base k (callN Pr fu n) (npOf qs) f x := by
  obtain ⟨hlen, hck⟩ := ddsB_at s.ck
  have hf : f < qs.length := by rw [← hlen, s.nf]; exact (List.getElem?_eq_some_iff.mp hx).1
  have hq : qs[f]? = some qs[f] := List.getElem?_eq_getElem hf
  obtain ⟨⟨y, hy, hm⟩, fd, FD, hb⟩ := s.fn f _ hq
  rw [hx] at hy
  cases hy
  exact ⟨hm, FD.kp, fd, _, ih f _ fd hq FD, hb, by unfold npOf; rw [hq]⟩
theorem prog_fn (s : Says F T Pr qs P w K mg base) (fu : Nat) : ∀ (n f : Nat) (q : Dd) (fd : FuncData), qs[f]? = some q → FunD K q.d.name q.d.qual q.d.params q.d.body q.d.scope [] [] (F.fa f) fd → FnG P w K mg base (n + 3) (F.fa f) fd q.ps (SpF F (npOf qs f) (callN Pr fu n f)) := by
  intro n
  obtain ⟨hlen, hck⟩ := ddsB_at s.ck
  induction n with
  | zero =>
    intro f q fd hq FD
    refine ⟨?_⟩
    rintro A outer s H args us vs Q E hr gd e0 bd rv ⟨J, r, S, xs, _, _, _, p⟩
    exact p.elim
  | succ n ih =>
    intro f q fd hq FD
    have hf : f < Pr.defs.length := by rw [hlen]; exact (List.getElem?_eq_some_iff.mp hq).1
    have hd : Pr.defs[f]? = some Pr.defs[f] := List.getElem?_eq_getElem hf
    generalize Pr.defs[f] = d at hd
    have hnp : npOf qs f = q.ps.length := by unfold npOf; rw [hq]
    have c := hck f d q hd hq
    unfold ddB at c
    simp only [Bool.and_eq_true, decide_eq_true_eq] at c
    obtain ⟨⟨⟨⟨c1, c2⟩, c3⟩, c4⟩, c5⟩ := c
    have S0 := scB_ok c3
    refine fnG_of FD S0 (fun vs H Q E ⟨J, r, S, xs, _, _, h, _⟩ => by rw [h, hnp]) (fun cdv A outer sh H vs Q E hr gd hsp => ?_)
    obtain ⟨J, r, S, xs, w0, t, hv, p⟩ := hsp
    let X := cxOf (L2.CX P w) P w K mg base q.N q.d.qual q.d.scope (F.fa f) cdv A outer sh H E
    let W : WS := ⟨fun cls d _ H => E cls d H, [], fun _ => True⟩
    have xo : XOk F T (n + 3) ⟨callN Pr fu n, fu, Pr.defs.length, Pr.nc, Pr.sub⟩ (npOf qs) ⟨q.N, q.d.scope, fun _ => true, true, true, none⟩ X W := {
      sx := ⟨s.hK, by have := hr.un; show (A.deeper _).units + 100 < cLine; omega, gd, s.sm⟩
      calm := fun _ => rfl
      hN := rfl
      nd := S0.nd
      sc := rfl
      fn := rfl
      tk := takes_of (X := X) rfl rfl rfl rfl
      rm := fun _ => hr
      sd := fun _ => rfl
      po := fun _ => passes_of (X := X) rfl
      hs := fun _ => ⟨rfl, rfl⟩
      ft := fun _ _ => rfl
      iv := fun _ _ _ _ _ => trivial
      ivc := fun _ _ => trivial
      fns := fun f x h => held_of s ih f x h
      cls := s.cls
      ini := s.ini
      sub := fun c d h1 h2 => s.sub c d h1 h2
      nc := s.nc
      cf := s.cf
      xat := fun _ _ z => nomatch z
      k2 := by omega
      bl := s.bl
      cst := s.cst
      ln := fun f xs S h => callN_len s fu n f xs S h }
    refine ⟨_, okB s.nf d.body xo c5, ?_⟩
    have hvx : xs.length = d.np := by rw [c1, ← hnp, ← hv, t.length]
    have hlv : vs.length ≤ q.N.length := by
      have := congrArg List.length S0.pre
      rw [List.length_take] at this
      omega
    refine ⟨start0 d xs, S, J, r, w0, start_en rfl (fun _ => trivial) t c2, ?_, ?_⟩
    · rw [WS.len]
      unfold start0 L2.start
      simp only [List.length_append, List.length_map, List.length_replicate, t.length, c2]
      rfl
    · have p2 : PoF F E H J r (runD ⟨callN Pr fu n, fu, Pr.defs.length, Pr.nc, Pr.sub⟩ d xs S) Q := by
        unfold callN at p
        rw [hd] at p
        exact p
      unfold runD at p2
      rw [if_pos hvx] at p2
      show PoL F W _ H J r (exS _ d.body (start0 d xs) S) _
      revert p2
      generalize exS _ d.body (start0 d xs) S = z
      intro p2
      cases z with
      | nx en' S' => exact fun st' H' J' r' a1 a2 a3 a4 a5 => p2 H' J' r' .non a2 a3 .non
      | rt v S' => exact fun H' J' r' u a1 a2 a3 => p2 H' J' r' u a1 a2 a3
      | ex c fs en' S' => exact fun st' H' J' r' d ws a1 a2 a3 a4 a5 a6 a7 => p2 H' J' r' d ws a2 a3 a6 a7
      | stk => exact p2
end
end GW
/-! Core 24: a law's end. -/
namespace GW
open PySem PySem.Spec PyProof.Rows L2
theorem law_g {P : Program} {w : World} {K : PySem.W.Frag} {mg mb : Str → Option Value} {k : Nat} {fa a : Addr} {fd : FuncData} {x : Str} {sp : Sp} {s0 : Shared} {vs : List Value} {ns : List Int}
    (KX : K.In s0.heap) (hns : s0.heap.Ns mainGlobals mg) (hb : s0.heap.Ns builtinsNs mb) (hbb : ∀ x : Str, x ≠ "__name__" → mb x = bootBuiltins x) (hlim : s0.heap.NoLimit) (hg : s0.gens = #[])
    (ha : s0.heap.get? a = some { cls := .type "list", data := .seq vs.toArray }) (hi : IntsAre vs ns) (hl : ns.length ≤ sizeLine) (hr : Room k callerA)
    (Fn : ∀ base : Heap, K.In base → base.Ns mainGlobals mg → FnG P w K mg base k fa fd [x] sp) (hbind : ∀ (s : Shared) (u : Value), BindsTo s fd ⟨[u], []⟩ [(x, u)])
    (hsp : ∀ H : Hp, Only H → SqL K H a (ns.map V.int) → sp [.ref a] H (fun v _ => v = .bl true) fun _ _ _ => False) :
    codeAny (model P w) callerA (.call (.ref fa) ⟨[.ref a], []⟩) (fun q s2 => q = .ok (.ret (.bool true)) ∧ OldK s0.heap s2.heap ∧ s2.os = s0.os ∧ AllBare s2.gens) s0 := by
  have rv := vals_ints hi
  have lenV := hi.length
  have core : ∀ H : Hp, Only H → SqL K H a (ns.map V.int) → HOk P w H s0.heap → (∀ b, H b ≠ none → b = a) → (H a ≠ none → K.lookup a = none) →
      codeAny (model P w) callerA (.call (.ref fa) ⟨[.ref a], []⟩) (fun q s2 => q = .ok (.ret (.bool true)) ∧ OldK s0.heap s2.heap ∧ s2.os = s0.os ∧ AllBare s2.gens) s0 := by
    intro H hO hS hok hA hK
    have noA : ∀ {b : Addr} {o : Obj} {es : Array DictEntry} {ep : Nat}, s0.heap.get? b = some o → o.data = .dict es ep → H b = none := fun {b o es ep} e d => Classical.byContradiction fun z => by
      rw [hA b z, ha] at e
      cases e
      cases d
    have nsK : ∀ {b : Addr} {m : Str → Option Value}, s0.heap.Ns b m → (hidT s0.heap H).Ns b m := fun {b m} ⟨o, es, ep, e, d, rest⟩ => ⟨o, es, ep, hidT_get e (noA e d), d, rest⟩
    have hKb : K.In (hidT s0.heap H) := fun b o e => hidT_get (KX b o e) (Classical.byContradiction fun z => by
      have e1 := hA b z
      rw [e1] at z e
      rw [hK z] at e
      cases e)
    have hM : Mod K mg (hidT s0.heap H) := ⟨hKb, nsK hns, ⟨mb, nsK hb, hbb⟩, hlim.elim fun mc q => ⟨mc, nsK q.1, q.2⟩⟩
    have e0 : Env0 P w K mg (hidT s0.heap H) callerA [] s0 H := ⟨rfl, hM, fun b o e => of_hidT e, Nat.le_of_eq (hidT_size _ _), trivial, fun b z => absurd (show b ∈ ([] : List Addr) from z) (by simp), hok, .of_eq hg⟩
    refine codeAny_mono ((Fn _ hKb (nsK hns)).run callerA [] s0 H ⟨[.ref a], []⟩ [.ref a] [.ref a] _ _ hr rfl e0 (hbind s0 (.ref a)) (.cons rfl .nil) (hsp H hO hS)) fun q s2 h => ?_
    cases q with
    | error e =>
      obtain ⟨_, _, _, _, _, _, _, _, _, _, _, _, z⟩ := (show L2.CX P w [] H s0 (fun _ _ _ => False) e s2 from h)
      exact z.elim
    | ok fl =>
      cases fl with
      | next => exact h.elim
      | brk => exact h.elim
      | cont => exact h.elim
      | ret u =>
        obtain ⟨v, H2, os, bare, un, hok2, rvu, e1⟩ := (show CE [] P w H s0 _ u s2 from h)
        have e2 : v = .bl true := e1
        subst e2
        have e3 : u = Value.bool true := rvu
        subst e3
        refine ⟨rfl, OldK.of_keep fun b o e => ?_, os, bare⟩
        cases hHb : H b with
        | none => exact un.keep b o e hHb (fun z => absurd (show b ∈ ([] : List Addr) from z) (by simp)) (by simp)
        | some ho =>
          rcases hO b with z | ⟨ob, xs, z⟩
          · rw [hHb] at z; cases z
          · obtain ⟨g1, _⟩ := hok b _ z
            obtain ⟨g2, _⟩ := hok2 b _ (un.frzs b ob _ z)
            rw [e] at g1
            cases g1
            exact g2
  cases hk : K.lookup a with
  | some o =>
    have e := KX a o hk
    rw [ha] at e
    cases e
    refine core (fun _ => none) (fun _ => .inl rfl) (.inr ⟨_, vs.toArray, _, hk, rfl, rfl, rfl, by rw [List.size_toArray, lenV]; exact hl, by simpa using rv⟩) (fun b u z => ?_) (fun b z => absurd rfl z) fun z => absurd rfl z
    have z' : (none : Option HO) = some u := z
    cases z'
  | none =>
    let o0 : Obj := { cls := .type "list", data := .seq vs.toArray }
    refine core (fun b => if b = a then some (.frz o0 (.lst (ns.map V.int))) else none) (fun b => ?_) (.inl (.inr ⟨o0, if_pos rfl⟩)) (fun b u z => ?_) (fun b z => ?_) fun _ => hk
    · by_cases hba : b = a
      · exact .inr ⟨_, _, if_pos hba⟩
      · exact .inl (if_neg hba)
    · by_cases hba : b = a
      · have z2 := (if_pos hba).symm.trans z
        cases z2
        subst hba
        exact ⟨ha, by rw [List.length_map]; exact hl, vs, _, rv, ha⟩
      · have z2 := (if_neg hba).symm.trans z
        cases z2
    · exact Classical.byContradiction fun hba => z (if_neg hba)
theorem walk_g {l : PySem.W.OpenLaw} {n k : Nat} {q : Program} {loose : List Str} {XP : (Str → Option Value) → Heap → Prop} {YP : World → Heap → Prop} {d : DefRec} {x : Str}
    (hn : l.most = some n) (hn2 : n ≤ sizeLine) (hdf : d.params.defaults = []) (hr : Room k callerA)
    (F : ∀ (w : World) (mg : Str → Option Value) (fa : Addr) (h : Heap), YP w h → h.Ns mainGlobals mg → mg d.name = some (.ref fa) →
      ∃ (K : PySem.W.Frag) (fd : FuncData) (sp : Sp), K.In h ∧ (∀ (s : Shared) (u : Value), BindsTo s fd ⟨[u], []⟩ [(x, u)]) ∧
        (∀ (H : Hp) (a : Addr) (ns : List Int), ns.length ≤ n → Only H → SqL K H a (ns.map V.int) → sp [.ref a] H (fun v _ => v = .bl true) fun _ _ _ => False) ∧
        ∀ base : Heap, K.In base → base.Ns mainGlobals mg → FnG l.prog w K mg base k fa fd [x] sp) :
    PySem.W.WalkO q loose XP YP l.row.toRowW d [] (fun f vs => PySem.call f vs) := by
  refine Att.attach_call hn hdf fun w s2 s1 mg mb fa o pm cd doc a vs ns G Y ho hd hcd hmg hobj hints hlen hg => ?_
  obtain ⟨K, fd, sp, KX, hb, hsp, hF⟩ := F w mg fa _ Y G.T.g hmg
  exact law_g KX G.T.g G.T.b G.T.builtins G.T.nolimit hg hobj hints (Nat.le_trans hlen hn2) hr hF hb fun H hO hS => hsp H a ns hlen hO hS
/-! ### the exception classes' own __init__ -/
def ini1 (ps : List Str) (body : List Stmt) (f : Str) : Bool := match ps, body with
  | [s, y], [.Assign [.Attribute (.Name s' _) f' _] (.Name y' _) _] => decide (s' = s) && decide (y' = y) && decide (f' = f) && decide (s ≠ y)
  | _, _ => false
def ini2 (ps : List Str) (body : List Stmt) (f g : Str) : Bool := match ps, body with
  | [s, y, z], [.Assign [.Attribute (.Name s' _) f' _] (.Name y' _) _, .Assign [.Attribute (.Name s2 _) g' _] (.Name z' _) _] => decide (s' = s) && decide (y' = y) && decide (f' = f) && decide (s2 = s) && decide (z' = z) && decide (g' = g)
  | _, _ => false
def iniB (ps : List Str) (sc : Scope) (body : List Stmt) (fs : List Str) : Bool := scB ps ps sc && (ps.all fun x => isLoc sc x && !(x == ("__debug__" : Str)) && !(x == ("__classdict__" : Str))) && (match fs with
  | [f] => ini1 ps body f
  | [g, f] => ini2 ps body f g
  | _ => false)
def oexB (K : PySem.W.Frag) (C : Addr) : Bool := (match K.lookup C with
  | some ⟨.type "type", _, .cls cd, sl⟩ => (match cd.mro, sl.toList with
    | .ref C' :: bm, [_, _, _, _, some (.builtin n), _] => C' == C && n == "ValueError.__new__" && !cd.hasDel && cd.hasDict && PySem.HandSPX.refsVE bm
    | _, _ => false)
  | _ => false) && decide (PySem.W.findIn K (.ref C) "__setattr__" = some (some (.builtin "object.__setattr__"))) && decide (PySem.W.subIn K (.ref C) (.type "BaseException") = some true) && decide (PySem.W.typeIn K (.ref C) = some (.type "type")) && PySem.W.keepIn K (.ref C)
theorem oexB_ok {K : PySem.W.Frag} {C : Addr} (h : oexB K C = true) : OexC K C := by
  unfold oexB at h
  simp only [Bool.and_eq_true, decide_eq_true_eq] at h
  obtain ⟨⟨⟨⟨h1, h2⟩, h3⟩, h4⟩, h5⟩ := h
  refine ⟨?_, h2, h3, h4, h5⟩
  split at h1
  · rename_i dd cd sl ho
    split at h1
    · rename_i C' bm k0 k1 k2 k3 n k5 hm hs
      simp only [Bool.and_eq_true, beq_iff_eq, Bool.not_eq_true'] at h1
      obtain ⟨⟨⟨⟨rfl, rfl⟩, hdel⟩, hdict⟩, hve⟩ := h1
      obtain ⟨nm, bs, mro, nsa, qn, hd, sn, sub, ab, col, del⟩ := cd
      dsimp only at hm hdel hdict
      subst hm
      subst hdel
      subst hdict
      have hsl : sl = #[k0, k1, k2, k3, some (.builtin "ValueError.__new__"), k5] := by
        obtain ⟨l⟩ := sl
        simp only at hs
        rw [hs]
      subst hsl
      exact ⟨nm, qn, nsa, bs, bm, sn, sub, ab, col, dd, k0, k1, k2, k3, k5, ho, hve⟩
    · cases h1
  · cases h1
theorem upd_flip {H : Hp} {p q : Addr} {u v t : HO} (h : p ≠ q) : upd (upd (upd H p u) q v) p t = upd (upd H p t) q v := by
  funext z
  by_cases h1 : z = p
  · subst h1; rw [upd_same, upd_ne h, upd_same]
  · by_cases h2 : z = q
    · subst h2; rw [upd_ne h1, upd_same, upd_same]
    · rw [upd_ne h1, upd_ne h2, upd_ne h1, upd_ne h2, upd_ne h1]
theorem ini_ok {F : Fx} {P : Program} {w : World} {K : PySem.W.Frag} {mg : Str → Option Value} {base : Heap} {c : Nat} {fI : Addr} {fd : FuncData} {x qual : Str} {params : Arguments} {body : List Stmt} {scope : Scope} {ps : List Str} {kws : List (Str × V)}
    (FD : FunD K x qual params body scope [] kws fI fd) (h : iniB ps scope body (F.cf c) = true) (oex : OexC K (F.ca c)) (fld : ∀ f ∈ F.cf c, PySem.W.findIn K (.ref (F.ca c)) f = some none) : FnOk P w K mg base (L2.CX P w) 1 fI fd ps (SpI F c) := by
  unfold iniB at h
  simp only [Bool.and_eq_true, List.all_eq_true, Bool.not_eq_true'] at h
  obtain ⟨⟨h1, h2⟩, h3⟩ := h
  have S := scB_ok h1
  split at h3
  · rename_i f hcf
    unfold ini1 at h3
    split at h3
    · rename_i sn yn _ s' p1 f' p2 y' p3 p4
      simp only [Bool.and_eq_true, decide_eq_true_eq] at h3
      obtain ⟨⟨⟨rfl, rfl⟩, rfl⟩, hne⟩ := h3
      obtain ⟨⟨a1, a2⟩, a3⟩ := h2 s' (by simp)
      obtain ⟨⟨b1, b2⟩, b3⟩ := h2 y' (by simp)
      refine FD.ok S (fun vs H Q E ⟨a, ys, e, hl, _⟩ => by rw [e, List.length_cons, hl, hcf]; rfl) fun cdv A outer s H vs Q E hr hsp => ?_
      refine ⟨_, pss_one (ps_ost (pe_var (i := 0) rfl (.inl (isLoc_ok a1)) a2 a3) (pe_var (i := 1) rfl (.inl (isLoc_ok b1)) b2 b3)), ?_⟩
      obtain ⟨a, ys, rfl, hl, hH, q⟩ := hsp
      rw [hcf] at hl q
      match ys, hl with
      | [y], _ => exact ⟨y, rfl, .ref a, rfl, a, F.ca c, rfl, oex, fld f' (by rw [hcf]; simp), .inl ⟨hH, fun dx d1 d2 => q dx d1 d2⟩⟩
    · cases h3
  · rename_i g f hcf
    unfold ini2 at h3
    split at h3
    · rename_i sn yn zn _ s' p1 f' p2 y' p3 p4 s2 p5 g' p6 z' p7 p8
      simp only [Bool.and_eq_true, decide_eq_true_eq] at h3
      obtain ⟨⟨⟨⟨⟨rfl, rfl⟩, rfl⟩, rfl⟩, rfl⟩, rfl⟩ := h3
      obtain ⟨⟨a1, a2⟩, a3⟩ := h2 s2 (by simp)
      obtain ⟨⟨b1, b2⟩, b3⟩ := h2 y' (by simp)
      obtain ⟨⟨c1, c2⟩, c3⟩ := h2 z' (by simp)
      refine FD.ok S (fun vs H Q E ⟨a, ys, e, hl, _⟩ => by rw [e, List.length_cons, hl, hcf]; rfl) fun cdv A outer s H vs Q E hr hsp => ?_
      refine ⟨_, pss_cons (ps_ost (pe_var (i := 0) rfl (.inl (isLoc_ok a1)) a2 a3) (pe_var (i := 1) rfl (.inl (isLoc_ok b1)) b2 b3)) (pss_one (ps_ost (pe_var (i := 0) rfl (.inl (isLoc_ok a1)) a2 a3) (pe_var (i := 2) rfl (.inl (isLoc_ok c1)) c2 c3))), ?_⟩
      obtain ⟨a, ys, rfl, hl, hH, q⟩ := hsp
      rw [hcf] at hl q
      match ys, hl with
      | [y, z], _ =>
        refine ⟨y, rfl, .ref a, rfl, a, F.ca c, rfl, oex, fld f' (by rw [hcf]; simp), .inl ⟨hH, fun dx d1 d2 => ?_⟩⟩
        refine ⟨z, rfl, .ref a, rfl, a, F.ca c, rfl, oex, fld g' (by rw [hcf]; simp), .inr ⟨dx, _, upd_same, by rw [upd_ne d2, upd_same], by simp, ?_⟩⟩
        rw [upd_flip d2]
        exact q dx d1 d2
    · cases h3
  · cases h3
/-! ### the head's facts -/
/-- an exception class of the text: its name, its fields (the last one first), where its own __init__ stands among the defs told -/
structure Xd where
  x : Str
  fs : List Str
  ini : Option Nat
def xdB (K : PySem.W.Frag) (q : Xd) : Bool := match q.ini with
  | none => true
  | some _ => oexB K (He.ga K q.x) && xfB K (He.ga K q.x) && (q.fs.all fun f => decide (PySem.W.findIn K (.ref (He.ga K q.x)) f = some none)) && decide (PySem.W.findIn K (.ref (He.ga K q.x)) "__init__" = some (some (.ref (He.ma K (He.ga K q.x) "__init__")))) && decide (PySem.W.typeIn K (.ref (He.ma K (He.ga K q.x) "__init__")) = some (.type "function"))
def smB (K : PySem.W.Frag) : Bool := (K.lookup sysModules).isSome && (match K.lookup cStatics with
  | some ⟨_, _, .dict es _, _⟩ => (es.toList.all fun e => match e.key with | .str _ _ => true | _ => false) && (nsFind es digitsKey).isNone
  | _ => false)
theorem smB_ok {K : PySem.W.Frag} (h : smB K = true) : SmK K := by
  unfold smB at h
  obtain ⟨h1, h2⟩ := Bool.and_eq_true_iff.mp h
  refine ⟨Option.isSome_iff_exists.mp h1, ?_⟩
  split at h2
  · rename_i es ep _ e
    obtain ⟨h3, h4⟩ := Bool.and_eq_true_iff.mp h2
    refine ⟨_, es, ep, e, rfl, fun e he => ?_, by simpa using h4⟩
    have := List.all_eq_true.mp h3 e (by simpa using he)
    split at this
    · exact ⟨_, _, by assumption⟩
    · cases this
  · cases h2
def exB (xs : List Xd) (K : PySem.W.Frag) : Bool := smB K && xs.all (xdB K)
abbrev AlG : Type := He.AlD × Bool
def frS (n : Nat) (g : Addr → Option Obj) : PySem.W.Frag := He.frG g (cStatics :: sysModules :: He.asD g n)
def obsX (n : Nat) (fa : List He.Fa) (fn : List He.DefD) (xs : List Xd) (g : Addr → Option Obj) : AlG := (He.obsD fa fn (frS n g), exB xs (frS n g))
def hookX (n : Nat) (fa : List He.Fa) (fn : List He.DefD) (xs : List Xd) : PySem.W.Hook where
  α := AlG
  obs := fun s => obsX n fa fn xs s.heap.get?
  val := fun _ => (He.valD fn, true)
  says := fun _ h => ∃ K : PySem.W.Frag, K.In h ∧ He.SaysD fa fn K ∧ exB xs K = true
  of := fun _ _ e => ⟨_, He.frG_in, congrArg (fun z : AlG => z.1) e, congrArg (fun z : AlG => z.2) e⟩
  keeps := fun _ _ _ ⟨K, hK, c⟩ k => ⟨K, PySem.W.Frag.In.keeps hK k, c⟩
theorem obsX_eq {n : Nat} {fa : List He.Fa} {fn : List He.DefD} {xs : List Xd} {g : Addr → Option Obj} {s : Shared} (h : ∀ a, g a = s.heap.get? a) : obsX n fa fn xs g = (hookX n fa fn xs).obs s := by
  have e : g = s.heap.get? := funext h
  rw [e]
  rfl
end GW
/-! Core 25: a law from its tables. -/
namespace GW
open PySem L2
structure Whole where
  T : Tab
  Pr : Pg
  qs : List Dd
  is : List Dd
  xs : List Xd
def plainD (q : Dd) : Bool := (match q.d.dfl with
  | [] => true
  | _ => false) && (match q.d.kwd with
  | [] => true
  | _ => false)
def Whole.ok (W : Whole) : Bool := ddsB W.T W.Pr.defs W.qs && decide (W.T.fn = W.qs.map (·.d.at_.1)) && (W.qs.all fun q => decide (q.d.at_.2 = none) && plainD q) && decide (W.Pr.nc = W.T.cl.length) && decide (W.T.cl = W.xs.map (·.x)) && decide (W.T.cf = W.xs.map (·.fs)) &&
  W.T.ci.all fun c => match W.xs[c]? with
    | some ⟨x, fs, some j⟩ => (match W.is[j]? with
      | some q => decide (q.d.at_ = (x, some ("__init__" : Str))) && iniB q.ps q.d.scope q.d.body fs && plainD q
      | none => false)
    | _ => false
def Whole.fn (W : Whole) : List He.DefD := W.qs.map (·.d) ++ W.is.map (·.d)
def exms (sub : Nat → Nat → Bool) (xs : List Str) : List He.Fa := (xs.zipIdx).flatMap fun p => (xs.zipIdx).map fun q => He.Fa.exm p.1 q.1 (sub p.2 q.2)
def cstF (p : Str × Val) : He.Fa := match p.2 with
  | .int i => .int p.1 i
  | .str z => .str p.1 z
  | _ => .glo p.1
def Whole.fa (W : Whole) : List He.Fa := W.T.fn.map He.Fa.glo ++ W.T.cl.map He.Fa.glo ++ W.T.bl.map He.Fa.free ++ exms W.Pr.sub W.T.cl ++ W.T.cs.map cstF
def Whole.F (W : Whole) (K : PySem.W.Frag) : Fx := ⟨K, fun f => match W.qs[f]? with
  | some q => He.fAd K q.d.at_
  | none => 0, fun c => He.ga K (W.T.cl.getD c Str.empty), fun c => W.T.cf.getD c []⟩
def BindOk (q : Dd) : Prop := ∀ (kV doc pm : Value) (an : Option Addr) (cdv ct : Value) (us : List Value), us.length = q.ps.length → bindArgs (PySem.W.fnOf q.d.name q.d.qual q.d.params q.d.body q.d.scope .none kV doc pm an cdv ct) ⟨us, []⟩ = pure (q.ps.zip us)
theorem lookup_mem {x : Str} {v : Val} : ∀ {l : List (Str × Val)}, l.lookup x = some v → (x, v) ∈ l
  | [], h => by cases h
  | (y, u) :: l, h => by
    rw [List.lookup_cons] at h
    split at h
    · rename_i e
      have e' : x = y := by simpa using e
      cases h
      rw [e']
      exact List.mem_cons_self ..
    · exact List.mem_cons_of_mem _ (lookup_mem h)
theorem fact_all {fa : List He.Fa} {fn : List He.DefD} {K : PySem.W.Frag} (c : He.SaysD fa fn K) {f : He.Fa} (h : f ∈ fa) : f.ok K = true := by
  obtain ⟨i, hi, e⟩ := List.getElem_of_mem h
  exact c.fact i (by rw [List.getElem?_eq_getElem hi, e])
theorem def_all {fa : List He.Fa} {fn : List He.DefD} {K : PySem.W.Frag} (c : He.SaysD fa fn K) {d : He.DefD} (h : d ∈ fn) : ∃ fd, FunD K d.name d.qual d.params d.body d.scope (d.dvs K) (d.kws K) (He.fAd K d.at_) fd := by
  obtain ⟨i, hi, e⟩ := List.getElem_of_mem h
  exact c.def_ i (by rw [List.getElem?_eq_getElem hi, e])
theorem plain_funD {K : PySem.W.Frag} {q : Dd} (h : plainD q = true) (x : ∃ fd, FunD K q.d.name q.d.qual q.d.params q.d.body q.d.scope (q.d.dvs K) (q.d.kws K) (He.fAd K q.d.at_) fd) : ∃ fd, FunD K q.d.name q.d.qual q.d.params q.d.body q.d.scope [] [] (He.fAd K q.d.at_) fd := by
  obtain ⟨h1, h2⟩ := Bool.and_eq_true_iff.mp h
  have e1 : q.d.dvs K = [] := by
    unfold He.DefD.dvs
    split at h1
    · rename_i e; rw [e]; rfl
    · cases h1
  have e2 : q.d.kws K = [] := by
    unfold He.DefD.kws
    split at h2
    · rename_i e; rw [e]; rfl
    · cases h2
  rw [e1, e2] at x
  exact x
theorem getD_at {α : Type} {l : List α} {i : Nat} {x d : α} (h : l[i]? = some x) : l.getD i d = x := by
  rw [List.getD_eq_getElem?_getD, h]; rfl
section
variable {W : Whole} {K : PySem.W.Frag} {h : Heap} {mg : Str → Option Value} {P : Program} {w : World}
theorem whole_says (ok : W.ok = true) (bd : ∀ q ∈ W.qs ++ W.is, BindOk q) (X : K.In h) (G : h.Ns mainGlobals mg) (c : He.SaysD W.fa W.fn K) (e : exB W.xs K = true) (base : Heap) : Says (W.F K) W.T W.Pr W.qs P w K mg base := by
  unfold Whole.ok at ok
  simp only [Bool.and_eq_true, decide_eq_true_eq, List.all_eq_true] at ok
  obtain ⟨⟨⟨⟨⟨⟨o1, o2⟩, o3⟩, o4⟩, o5⟩, o6⟩, o7⟩ := ok
  have glo : ∀ x ∈ W.T.fn ++ W.T.cl, mg x = some (.ref (He.ga K x)) := fun x hx => He.glo_ok X G (fact_all c (f := .glo x) (by
    unfold Whole.fa
    rcases List.mem_append.mp hx with hx | hx
    · exact List.mem_append_left _ (List.mem_append_left _ (List.mem_append_left _ (List.mem_append_left _ (List.mem_map.mpr ⟨x, hx, rfl⟩))))
    · exact List.mem_append_left _ (List.mem_append_left _ (List.mem_append_left _ (List.mem_append_right _ (List.mem_map.mpr ⟨x, hx, rfl⟩))))))
  have ha : ∀ q ∈ W.qs ++ W.is, plainD q = true → ∃ fd, FunD K q.d.name q.d.qual q.d.params q.d.body q.d.scope [] [] (He.fAd K q.d.at_) fd ∧ Binds K fd q.ps [] := fun q hq hp => by
    obtain ⟨fd, FD⟩ := plain_funD hp (def_all c (d := q.d) (by
      unfold Whole.fn
      rcases List.mem_append.mp hq with z | z
      · exact List.mem_append_left _ (List.mem_map.mpr ⟨q, z, rfl⟩)
      · exact List.mem_append_right _ (List.mem_map.mpr ⟨q, z, rfl⟩)))
    exact ⟨fd, FD, FD.bindsN (bd q hq)⟩
  obtain ⟨e1, e2⟩ := Bool.and_eq_true_iff.mp e
  refine ⟨rfl, o1, ?_, fun f q hq => ?_, fun i x hx => ?_, fun i hi => ?_, fun i j hi hj => ?_, o4, fun _ => rfl, fun x hx => ?_, fun x v hx => ?_, smB_ok e1⟩
  · rw [(ddsB_at o1).1, o2, List.length_map]
  · have hm : q ∈ W.qs := List.mem_of_getElem? hq
    obtain ⟨h1, h2⟩ := o3 q hm
    have hfa : (W.F K).fa f = He.fAd K q.d.at_ := by show (match W.qs[f]? with | some q => He.fAd K q.d.at_ | none => 0) = _; rw [hq]
    have hT : W.T.fn[f]? = some q.d.at_.1 := by rw [o2, List.getElem?_map, hq]; rfl
    refine ⟨⟨_, hT, ?_⟩, ?_⟩
    · rw [glo _ (List.mem_append_left _ (List.mem_of_getElem? hT)), hfa]
      unfold He.fAd
      rw [h1]
    · rw [hfa]
      exact ha q (List.mem_append_left _ hm) h2
  · rw [glo x (List.mem_append_right _ (List.mem_of_getElem? hx))]
    show _ = some (Value.ref (He.ga K (W.T.cl.getD i Str.empty)))
    rw [getD_at hx]
  · have z := o7 i hi
    split at z
    · rename_i x fs j hx
      split at z
      · rename_i q hj
        simp only [Bool.and_eq_true, decide_eq_true_eq] at z
        obtain ⟨⟨z1, z2⟩, z3⟩ := z
        have hcl : W.T.cl.getD i Str.empty = x := getD_at (by rw [o5, List.getElem?_map, hx]; rfl)
        have hcf : (W.F K).cf i = fs := getD_at (by rw [o6, List.getElem?_map, hx]; rfl)
        have hca : (W.F K).ca i = He.ga K x := by show He.ga K _ = _; rw [hcl]
        have hb := List.all_eq_true.mp e2 _ (List.mem_of_getElem? hx)
        unfold xdB at hb
        simp only [Bool.and_eq_true, decide_eq_true_eq, List.all_eq_true] at hb
        obtain ⟨⟨⟨⟨b1, b2⟩, b3⟩, b4⟩, b5⟩ := hb
        obtain ⟨fd, FD, bi⟩ := ha q (List.mem_append_right _ (List.mem_of_getElem? hj)) z3
        have hat : He.fAd K q.d.at_ = He.ma K (He.ga K x) "__init__" := by rw [z1]; rfl
        rw [hat] at FD
        have ox : OexC K ((W.F K).ca i) := by rw [hca]; exact oexB_ok b1
        have fl : ∀ f ∈ (W.F K).cf i, PySem.W.findIn K (.ref ((W.F K).ca i)) f = some none := by rw [hca, hcf]; exact b3
        refine ⟨ox, by rw [hca]; exact xfB_ok b2, fl, He.ma K (He.ga K x) "__init__", fd, q.ps, by rw [hca]; exact b4, b5, ini_ok FD (by rw [hcf]; exact z2) ox fl, bi⟩
      · cases z
    · cases z
  · have hx := List.getElem?_eq_getElem hi
    have hy := List.getElem?_eq_getElem hj
    have q := He.exm_ok (fact_all c (f := .exm W.T.cl[i] W.T.cl[j] (W.Pr.sub i j)) (by
      unfold Whole.fa
      refine List.mem_append_left _ (List.mem_append_right _ ?_)
      unfold exms
      refine List.mem_flatMap.mpr ⟨(W.T.cl[i], i), ?_, List.mem_map.mpr ⟨(W.T.cl[j], j), ?_, rfl⟩⟩
      · exact List.mem_zipIdx_iff_getElem?.mpr hx
      · exact List.mem_zipIdx_iff_getElem?.mpr hy))
    show PySem.W.exmOne K (.ref (He.ga K (W.T.cl.getD i Str.empty))) (.ref (He.ga K (W.T.cl.getD j Str.empty))) = _
    rw [getD_at hx, getD_at hy]
    exact q
  · exact He.free_ok X G (fact_all c (f := .free x) (by
      unfold Whole.fa
      exact List.mem_append_left _ (List.mem_append_left _ (List.mem_append_right _ (List.mem_map.mpr ⟨x, hx, rfl⟩)))))
  · have hm : (x, v) ∈ W.T.cs := lookup_mem hx
    have hf : cstF (x, v) ∈ W.fa := by
      unfold Whole.fa
      exact List.mem_append_right _ (List.mem_map.mpr ⟨_, hm, rfl⟩)
    cases v with
    | int i => exact He.int_ok X G (fact_all c (f := .int x i) hf)
    | str z => exact He.str_ok X G (fact_all c (f := .str x z) hf)
    | _ => trivial
/-- what a law's def promises: at every script the core text answers True -/
def SpL (F : Fx) (Pr : Pg) (n li : Nat) : Sp := fun vs H Q E => ∃ fu J r S xs, Wo F H J r S ∧ Reps F J r xs vs ∧ vs.length = 1 ∧ PoF F E H J r (callN Pr fu n li xs S) Q
theorem sp_script {F : Fx} {K : PySem.W.Frag} (hK : F.K = K) {Pr : Pg} {n li : Nat} {ns : List Int} {H : Hp} {a : Addr} (hS : SqL K H a (ns.map V.int)) (p : ∃ fu S, callN Pr fu n li [.scr (ns.map Val.int)] [] = .ok (.bl true) S) : SpL F Pr n li [.ref a] H (fun v _ => v = .bl true) fun _ _ _ => False := by
  obtain ⟨fu, S, e⟩ := p
  have t : ∀ ns : List Int, Reps F H [] (ns.map Val.int) (ns.map V.int) := fun ns => by
    induction ns with
    | nil => exact .nil
    | cons n ns ih => exact .cons (.int n) ih
  refine ⟨fu, H, [], [], [.scr (ns.map Val.int)], ⟨fun _ _ z => z, fun _ z => (by cases z), List.nodup_nil, rfl, fun l o z => (by simp at z)⟩, .cons (.scr (hK ▸ hS) (t ns)) .nil, rfl, ?_⟩
  rw [e]
  intro H' J' r' v _ _ k
  cases k
  rfl
theorem whole_law (ok : W.ok = true) (bd : ∀ q ∈ W.qs ++ W.is, BindOk q) {n li : Nat} {q : Dd} {x : Str} (hq : W.qs[li]? = some q) (hps : q.ps = [x]) (X : K.In h) (G : h.Ns mainGlobals mg) (c : He.SaysD W.fa W.fn K) (e : exB W.xs K = true) {fa : Addr} (hmg : mg q.d.at_.1 = some (.ref fa))
    (plain : ∀ ns : List Int, ns.length ≤ 63 → ∃ fu S, callN W.Pr fu n li [.scr (ns.map Val.int)] [] = .ok (.bl true) S) :
    ∃ (K : PySem.W.Frag) (fd : FuncData) (sp : Sp), K.In h ∧ (∀ (s : Shared) (u : Value), BindsTo s fd ⟨[u], []⟩ [(x, u)]) ∧
        (∀ (H : Hp) (a : Addr) (ns : List Int), ns.length ≤ 63 → Only H → SqL K H a (ns.map V.int) → sp [.ref a] H (fun v _ => v = .bl true) fun _ _ _ => False) ∧
        ∀ base : Heap, K.In base → base.Ns mainGlobals mg → FnG P w K mg base (n + 3) fa fd [x] sp := by
  have s0 := whole_says (P := P) (w := w) ok bd X G c e h
  obtain ⟨⟨y, hy, hm⟩, fd0, FD0, b0⟩ := s0.fn li q hq
  have hfa : (W.F K).fa li = fa := by
    have hyq : y = q.d.at_.1 := by
      have o2 : W.T.fn = W.qs.map (·.d.at_.1) := by
        unfold Whole.ok at ok
        simp only [Bool.and_eq_true, decide_eq_true_eq] at ok
        exact ok.1.1.1.1.1.2
      rw [o2, List.getElem?_map, hq] at hy
      exact (Option.some.inj hy).symm
    rw [hyq, hmg] at hm
    injection (Option.some.inj hm) with z
    exact z.symm
  have plainq : q.d.dfl = [] := by
    have o1 := s0.ck
    obtain ⟨hl, hck⟩ := ddsB_at o1
    have hli : li < W.Pr.defs.length := by rw [hl]; exact (List.getElem?_eq_some_iff.mp hq).1
    have cc := hck li _ q (List.getElem?_eq_getElem hli) hq
    unfold ddB at cc
    simp only [Bool.and_eq_true] at cc
    have := cc.1.2
    split at this
    · assumption
    · cases this
  refine ⟨K, fd0, SpL (W.F K) W.Pr n li, X, fun s u => ?_, fun H a ns hn _ hS => sp_script rfl hS (plain ns hn), fun base KX hb => ?_⟩
  · have z := FD0.bindsA (ps := q.ps) (bd q (List.mem_append_left _ (List.mem_of_getElem? hq))) s [u] (by rw [hps]; rfl)
    rw [hps] at z
    exact z
  · have s1 := whole_says (P := P) (w := w) ok bd X G c e base
    refine ⟨fun A outer s H args us vs Q E hr gd e0 bt rv ⟨fu, J, r, S, xs, w0, t, hv, p⟩ => ?_⟩
    have Fn := prog_fn s1 fu n li q fd0 hq FD0
    rw [hfa, hps] at Fn
    have hnp : npOf W.qs li = 1 := by unfold npOf; rw [hq]; show q.ps.length = 1; rw [hps]; rfl
    exact Fn.run A outer s H args us vs Q E hr gd e0 bt rv ⟨J, r, S, xs, w0, t, by rw [hv, hnp], p⟩
end
end GW
/-! Core 26: the evaluator, said for simp; sizes of numbers. -/
namespace GW
open PySem
section
variable {O : Om} {en : Enm} {S : Store}
@[simp] theorem ev_cst (v : Val) : evE O (.cst v) en S = .ok v S := rfl
@[simp] theorem ev_var (i : Nat) : evE O (.var i) en S = getS en i S := rfl
@[simp] theorem ev_glo (x : Str) (v : Val) : evE O (.glo x v) en S = .ok v S := rfl
@[simp] theorem ev_bin (o : Bop) (a b : E) : evE O (.bin o a b) en S = (evE O a en S).bind fun x S1 => (evE O b en S1).bind fun y S2 => bopV o x y S2 := rfl
@[simp] theorem ev_neg (a : E) : evE O (.neg a) en S = (evE O a en S).bind negV := rfl
@[simp] theorem ev_not (a : E) : evE O (.not a) en S = (evE O a en S).bind fun x S1 => (truR x S1).bind fun c S2 => .ok (.bl (!c)) S2 := rfl
@[simp] theorem ev_and (a b : E) : evE O (.and a b) en S = (evE O a en S).bind fun x S1 => (truR x S1).bind fun c S2 => if c = true then evE O b en S2 else .ok x S2 := rfl
@[simp] theorem ev_or (a b : E) : evE O (.or a b) en S = (evE O a en S).bind fun x S1 => (truR x S1).bind fun c S2 => if c = true then .ok x S2 else evE O b en S2 := rfl
@[simp] theorem ev_cmp (o : Cop) (a b : E) : evE O (.cmp o a b) en S = (evE O a en S).bind fun x S1 => (evE O b en S1).bind fun y S2 => optB S2 (cmpE o x y S2) := rfl
@[simp] theorem ev_chn (o p : Cop) (a b c : E) : evE O (.chn o p a b c) en S = (evE O a en S).bind fun x S1 => (evE O b en S1).bind fun y S2 => match cmpE o x y S2 with
    | some true => (evE O c en S2).bind fun z S3 => optB S3 (cmpE p y z S3)
    | some false => .ok (.bl false) S2
    | none => .stk := rfl
@[simp] theorem ev_ife (c a b : E) : evE O (.ife c a b) en S = (evE O c en S).bind fun x S1 => (truR x S1).bind fun d S2 => if d = true then evE O a en S2 else evE O b en S2 := rfl
@[simp] theorem ev_isi (a : E) (ts : List String) : evE O (.isi a ts) en S = (evE O a en S).bind fun x S1 => optB S1 (isiE S1 x ts) := rfl
@[simp] theorem ev_idx (a i : E) : evE O (.idx a i) en S = (evE O a en S).bind fun x S1 => (evE O i en S1).bind fun y S2 => idxV x y S2 := rfl
@[simp] theorem ev_slc (a : E) (lo hi : Po) : evE O (.slc a lo hi) en S = (evE O a en S).bind fun x S1 => (evP O lo en S1).bind fun l S2 => (evP O hi en S2).bind fun h S3 => slcV x l h S3 := rfl
@[simp] theorem ev_slcR (a : E) (lo hi : Po) : evE O (.slcR a lo hi) en S = (evE O a en S).bind fun x S1 => (evP O lo en S1).bind fun l S2 => (evP O hi en S2).bind fun h S3 => slcRV x l h S3 := rfl
@[simp] theorem ev_tpd (es : Es) : evE O (.tpd es) en S = (evs O es en S).bind fun xs S1 => mkT xs S1 := rfl
@[simp] theorem ev_lsd (b : Bool) (es : Es) : evE O (.lsd b es) en S = (evs O es en S).bind fun xs S1 => mkL b xs S1 := rfl
@[simp] theorem ev_dcd (ks vs : Es) : evE O (.dcd ks vs) en S = (evs O ks en S).bind fun ks S1 => (evs O vs en S1).bind fun vs S2 => mkD ks vs S2 := rfl
@[simp] theorem ev_blt (f : Blt) (es : Es) : evE O (.blt f es) en S = (evs O es en S).bind fun xs S1 => bltV f xs S1 := rfl
@[simp] theorem ev_call (f : Nat) (es : Es) : evE O (.call f es) en S = (evs O es en S).bind fun xs S1 => O.call f xs S1 := rfl
@[simp] theorem ev_callv (i : Nat) (es : Es) : evE O (.callv i es) en S = match en[i]? with
    | some (some (.fn f)) => if f < O.nf then (evs O es en S).bind fun xs S1 => O.call f xs S1 else .stk
    | _ => .stk := rfl
@[simp] theorem ev_mth (m : Mth) (o : E) (es : Es) : evE O (.mth m o es) en S = (evE O o en S).bind fun x S1 => if tyOk m x S1 = true then (evs O es en S1).bind fun xs S2 => mthV m x xs S2 else .stk := rfl
@[simp] theorem ev_lc (b : Bool) (t : Tg) (it : It) (cs : Es) (e : E) : evE O (.lc b t it cs e) en S = (evI O it en S).bind fun wk S1 => (lcF wk.cs wk.xs t (fun en' S' => evC O cs en' S') (fun en' S' => evE O e en' S') en wk.its [] S1).bind fun ys S2 => mkL b ys S2 := rfl
@[simp] theorem ev_efl (p c j : Nat) : evE O (.efl p c j) en S = match en[p]? with
    | some (some (.exc c' fs)) => if c' = c then oV fs[j]? S else .stk
    | _ => .stk := rfl
@[simp] theorem evs_n : evs O .nil en S = .ok [] S := rfl
@[simp] theorem evs_c (e : E) (es : Es) : evs O (.cons e es) en S = (evE O e en S).bind fun x S1 => (evs O es en S1).bind fun xs S2 => .ok (x :: xs) S2 := rfl
@[simp] theorem evp_n : evP O .no en S = .ok none S := rfl
@[simp] theorem evp_y (e : E) : evP O (.yes e) en S = (evE O e en S).bind fun x S1 => match x with
    | .int i => .ok (some i) S1
    | _ => .stk := rfl
@[simp] theorem evc_n : evC O .nil en S = .ok true S := rfl
@[simp] theorem evc_c (e : E) (es : Es) : evC O (.cons e es) en S = (evE O e en S).bind fun x S1 => (truR x S1).bind fun c S2 => if c = true then evC O es en S2 else .ok false S2 := rfl
@[simp] theorem evi_val (e : E) : evI O (.val e) en S = (evE O e en S).bind fun v S1 => match items S1 v with
    | some xs => .ok ⟨[v], [xs], xs⟩ S1
    | none => .stk := rfl
@[simp] theorem evi_rng1 (e : E) : evI O (.rng1 e) en S = (evE O e en S).bind rng1W := rfl
@[simp] theorem evi_rng2 (a b : E) : evI O (.rng2 a b) en S = (evE O a en S).bind fun v S1 => (evE O b en S1).bind fun u S2 => rng2W v u S2 := rfl
@[simp] theorem evi_enm (e : E) : evI O (.enm e) en S = (evE O e en S).bind fun v S1 => match lstI S1 v with
    | some xs => .ok ⟨[v], [xs], xs.mapIdx fun (k : Nat) x => .tup [.int k, x]⟩ S1
    | none => .stk := rfl
@[simp] theorem evi_zip (a b : E) : evI O (.zip a b) en S = (evE O a en S).bind fun v S1 => (evE O b en S1).bind fun u S2 => zipW v u S2 := rfl
@[simp] theorem evi_rev (e : E) : evI O (.rev e) en S = (evE O e en S).bind fun v S1 => revW v S1 := rfl
@[simp] theorem ex_set (i : Nat) (e : E) : exC O (.set i e) en S = (evE O e en S).to en fun v S1 => .nx (en.set i (some v)) S1 := rfl
@[simp] theorem ex_tset (is : List Nat) (e : E) : exC O (.tset is e) en S = (evE O e en S).to en fun v S1 => match putT (.tup is) v en with
    | some en' => .nx en' S1
    | none => .stk := rfl
@[simp] theorem ex_par (i j : Nat) (a b : E) : exC O (.par i j a b) en S = (evE O a en S).to en fun x S1 => (evE O b en S1).to en fun y S2 => .nx ((en.set i (some x)).set j (some y)) S2 := rfl
@[simp] theorem ex_sset (a i e : E) : exC O (.sset a i e) en S = (evE O e en S).to en fun v S1 => (evE O a en S1).to en fun x S2 => (evE O i en S2).to en fun k S3 => match setSub x k v S3 with
    | some S4 => .nx en S4
    | none => .stk := rfl
@[simp] theorem ex_exp (e : E) : exC O (.exp e) en S = (evE O e en S).to en fun _ S1 => .nx en S1 := rfl
@[simp] theorem ex_ret (e : E) : exC O (.ret e) en S = (evE O e en S).to en fun v S1 => .rt v S1 := rfl
@[simp] theorem ex_retN : exC O .retN en S = .rt .non S := rfl
@[simp] theorem ex_pas : exC O .pas en S = .nx en S := rfl
@[simp] theorem ex_ife (c : E) (a b : Cs) : exC O (.ife c a b) en S = ((evE O c en S).bind truR).to en fun d S1 => if d = true then exS O a en S1 else exS O b en S1 := rfl
theorem ex_whl (c : E) (b : Cs) : exC O (.whl c b) en S = whlF (fun en S => (evE O c en S).bind truR) (fun en S => exS O b en S) O.fu en S := rfl
@[simp] theorem ex_forr (t : Tg) (it : It) (b : Cs) : exC O (.forr t it b) en S = (evI O it en S).to en fun wk S1 => forF wk.cs wk.xs t (fun en S => exS O b en S) wk.its en S1 := rfl
@[simp] theorem ex_rai (c : Nat) (es : Es) : exC O (.rai c es) en S = (evs O es en S).to en fun xs S1 => .ex c xs.reverse en S1 := rfl
@[simp] theorem ex_tri (b : Cs) (hs : Hs) : exC O (.tri b hs) en S = match exS O b en S with
    | .ex c fs en' S' => if c < O.nc then exH O hs c fs en' S' else .stk
    | o => o := rfl
@[simp] theorem exs_n : exS O .nil en S = .nx en S := rfl
@[simp] theorem exs_c (c : C) (cs : Cs) : exS O (.cons c cs) en S = (exC O c en S).then fun en' S' => exS O cs en' S' := rfl
@[simp] theorem exh_n (c : Nat) (fs : List Val) : exH O .nil c fs en S = .ex c fs en S := rfl
@[simp] theorem exh_c (k : Nat) (i : Option Nat) (b : Cs) (hs : Hs) (c : Nat) (fs : List Val) : exH O (.cons k i b hs) c fs en S = if O.sub c k = true then (match i with
    | some i => if c = k then (exS O b (en.set i none ++ [some (.exc c fs)]) S).out en.length i else .stk
    | none => (exS O b en S).noX) else exH O hs c fs en S := by
  cases i <;> rfl
@[simp] theorem get_s (v : Val) (i : Nat) (h : en[i]? = some (some v)) : getS en i S = .ok v S := by unfold getS; rw [h]
@[simp] theorem oV_s (v : Val) : oV (some v) S = .ok v S := rfl
@[simp] theorem optB_s (b : Bool) : optB S (some b) = .ok (.bl b) S := rfl
@[simp] theorem neg_int (i : Int) : negV (.int i) S = .ok (.int (-i)) S := rfl
@[simp] theorem tru_bl (b : Bool) : truR (.bl b) S = .ok b S := rfl
@[simp] theorem bop_add_int (i j : Int) : bopV .add (.int i) (.int j) S = .ok (.int (i + j)) S := rfl
@[simp] theorem bop_sub_int (i j : Int) : bopV .sub (.int i) (.int j) S = .ok (.int (i - j)) S := rfl
theorem bop_mul_int {i j : Int} (h : mulOk i j = true) : bopV .mul (.int i) (.int j) S = .ok (.int (i * j)) S := if_pos h
theorem bop_div_int {i j : Int} (h : divOk i j = true) : bopV .div (.int i) (.int j) S = .ok (.int (i.fdiv j)) S := if_pos h
theorem bop_mod_int {i j : Int} (h : j ≠ 0) : bopV .mod (.int i) (.int j) S = .ok (.int (i.fmod j)) S := if_pos h
theorem bop_pow_int {i j : Int} (h : powOk i j = true) : bopV .pow (.int i) (.int j) S = .ok (.int (i ^ j.toNat)) S := if_pos h
theorem bop_add_lst {a b : List Val} (h : a.length + b.length ≤ sizeLine) : bopV .add (.lst a) (.lst b) S = .ok (.lst (a ++ b)) S := if_pos h
theorem bop_add_tup {a b : List Val} (h : a.length + b.length ≤ sizeLine) : bopV .add (.tup a) (.tup b) S = .ok (.tup (a ++ b)) S := if_pos h
end
/-! ### sizes -/
theorem bits_le {i : Int} {n : Nat} (h : i.natAbs < 2 ^ n) : Builtin.Int.intBits i ≤ n := by
  unfold Builtin.Int.intBits
  split
  · exact Nat.zero_le _
  · rename_i hz
    have h0 : i.natAbs ≠ 0 := by
      intro z
      have : i = 0 := Int.natAbs_eq_zero.mp z
      subst this
      exact hz rfl
    exact (Nat.log2_lt h0).mpr h
theorem mulOk_l {i j : Int} (h : i.natAbs < 2 ^ 64) : mulOk i j = true := by
  have := bits_le h
  unfold mulOk
  have e : decide (Builtin.Int.intBits i > shortFactorBits) = false := decide_eq_false (by unfold shortFactorBits; omega)
  rw [e]
  rfl
theorem mulOk_r {i j : Int} (h : j.natAbs < 2 ^ 64) : mulOk i j = true := by
  have := bits_le h
  unfold mulOk
  have e : decide (Builtin.Int.intBits j > shortFactorBits) = false := decide_eq_false (by unfold shortFactorBits; omega)
  rw [e]
  simp
theorem mulOk_b {i j : Int} {n m : Nat} (h : i.natAbs < 2 ^ n) (h' : j.natAbs < 2 ^ m) (hs : n + m ≤ 100000000) : mulOk i j = true := by
  have h1 := bits_le h
  have h2 := bits_le h'
  unfold mulOk
  have e : Builtin.Int.intTooBig ((Builtin.Int.intBits i : Int) + Builtin.Int.intBits j) = false := by
    unfold Builtin.Int.intTooBig
    refine decide_eq_false ?_
    have hb : (100000000 : Int) ≤ (bitsLine : Int) := by decide
    omega
  rw [e]
  simp
theorem divOk_b {i j : Int} (h0 : j ≠ 0) (h : j.natAbs < 2 ^ 9000) : divOk i j = true := by
  unfold divOk
  have hz : j.natAbs ≠ 0 := fun z => h0 (Int.natAbs_eq_zero.mp z)
  rw [decide_eq_true h0, PyProof.noPylong_of_log2 ((Nat.log2_lt hz).mpr h)]
  rfl
end GW
/-! Core 27: what the laws have in common: purses. -/
namespace GW
open PySem
theorem ix_0 (x : Val) (xs : List Val) : ixV (x :: xs) 0 = some x := by
  unfold ixV L2.atI L2.ixN
  rw [if_pos (by decide), if_pos (by simp only [List.length_cons]; omega)]
  rfl
theorem ix_1 (x y : Val) (xs : List Val) : ixV (x :: y :: xs) 1 = some y := by
  unfold ixV L2.atI L2.ixN
  rw [if_pos (by decide), if_pos (by simp; omega)]
  rfl
theorem ix_2 (x y z : Val) (xs : List Val) : ixV (x :: y :: z :: xs) 2 = some z := by
  unfold ixV L2.atI L2.ixN
  rw [if_pos (by decide), if_pos (by simp; omega)]
  rfl
theorem ix_nat {xs : List Val} {i : Nat} {v : Val} (h : xs[i]? = some v) : ixV xs (i : Int) = some v := by
  have hl := (List.getElem?_eq_some_iff.mp h).1
  unfold ixV L2.atI L2.ixN
  rw [if_pos (by omega), if_pos (by omega)]
  simpa using h
@[simp] theorem idx_tup0 (x : Val) (xs : List Val) (S : Store) : idxV (.tup (x :: xs)) (.int 0) S = .ok x S := by
  unfold idxV; dsimp only; rw [ix_0]; rfl
@[simp] theorem idx_tup1 (x y : Val) (xs : List Val) (S : Store) : idxV (.tup (x :: y :: xs)) (.int 1) S = .ok y S := by
  unfold idxV; dsimp only; rw [ix_1]; rfl
@[simp] theorem idx_lst0 (x : Val) (xs : List Val) (S : Store) : idxV (.lst (x :: xs)) (.int 0) S = .ok x S := by
  unfold idxV; dsimp only; rw [ix_0]; rfl
@[simp] theorem idx_lst1 (x y : Val) (xs : List Val) (S : Store) : idxV (.lst (x :: y :: xs)) (.int 1) S = .ok y S := by
  unfold idxV; dsimp only; rw [ix_1]; rfl
theorem idx_lstN {xs : List Val} {i : Nat} {v : Val} {S : Store} (h : xs[i]? = some v) : idxV (.lst xs) (.int i) S = .ok v S := by
  unfold idxV; dsimp only; rw [ix_nat h]; rfl
theorem idx_ref {S : Store} {l : Nat} {xs : List Val} {i : Int} {v : Val} (h : S[l]? = some (.lst xs)) (hi : ixV xs i = some v) : idxV (.ref l) (.int i) S = .ok v S := by
  unfold idxV
  dsimp only
  rw [h]
  dsimp only
  rw [hi]
  rfl
theorem set_ref {S : Store} {l : Nat} {xs : List Val} {i : Nat} {v : Val} (h : S[l]? = some (.lst xs)) (hi : i < xs.length) : setSub (.ref l) (.int i) v S = some (S.set l (.lst (xs.set i v))) := by
  unfold setSub
  dsimp only
  rw [h]
  dsimp only
  unfold L2.ixN
  rw [if_pos (by omega), if_pos (by omega)]
  simp
theorem cmp_gt (i j : Int) (S : Store) : cmpE .gt (.int i) (.int j) S = some (decide (i > j)) := rfl
theorem cmp_lt (i j : Int) (S : Store) : cmpE .lt (.int i) (.int j) S = some (decide (i < j)) := rfl
theorem cmp_ge (i j : Int) (S : Store) : cmpE .ge (.int i) (.int j) S = some (decide (i ≥ j)) := rfl
theorem cmp_le (i j : Int) (S : Store) : cmpE .le (.int i) (.int j) S = some (decide (i ≤ j)) := rfl
theorem cmp_eq (i j : Int) (S : Store) : cmpE .eq (.int i) (.int j) S = some (decide (i = j)) := rfl
theorem cmp_ne (i j : Int) (S : Store) : cmpE .ne (.int i) (.int j) S = some (!decide (i = j)) := rfl
/-- a purse at l -/
def Purse (S : Store) (l : Nat) : Prop := ∃ a b c : Int, S[l]? = some (.lst [.int a, .int b, .int c]) ∧ 0 ≤ b ∧ b < 2147483629
/-- some draws behind -/
structure Drawn (S : Store) (l : Nat) (S' : Store) : Prop where
  pu : Purse S' l
  ch : ∃ o, S' = S.set l o
theorem Purse.lt {S : Store} {l : Nat} (h : Purse S l) : l < S.length := by
  obtain ⟨a, b, c, e, _⟩ := h
  exact (List.getElem?_eq_some_iff.mp e).1
theorem Drawn.trans {S S1 S2 : Store} {l : Nat} (x : Drawn S l S1) (y : Drawn S1 l S2) : Drawn S l S2 := by
  obtain ⟨o1, e1⟩ := x.ch
  obtain ⟨o2, e2⟩ := y.ch
  exact ⟨y.pu, o2, by rw [e2, e1, List.set_set]⟩
theorem Drawn.refl {S : Store} {l : Nat} (h : Purse S l) : Drawn S l S := ⟨h, by
  obtain ⟨a, b, c, e, _⟩ := h
  exact ⟨_, (List.set_getElem_self (List.getElem?_eq_some_iff.mp e).1).symm⟩⟩
theorem Drawn.len {S S' : Store} {l : Nat} (h : Drawn S l S') : S'.length = S.length := by
  obtain ⟨o, rfl⟩ := h.ch
  exact List.length_set ..
theorem Drawn.at {S S' : Store} {l m : Nat} (h : Drawn S l S') (hm : l ≠ m) : S'[m]? = S[m]? := by
  obtain ⟨o, rfl⟩ := h.ch
  exact List.getElem?_set_ne hm
def bTake : Cs := (.cons (.ife (.cmp .gt (.idx (.var 0) (.cst (.int 0))) (.cst (.int 0))) (.cons (.set 4 (.bin .mod (.idx (.var 0) (.cst (.int 0))) (.var 1)))
    (.cons (.sset (.var 0) (.cst (.int 0)) (.bin .div (.idx (.var 0) (.cst (.int 0))) (.var 1)))
    (.cons (.ret (.var 4))
    .nil))) .nil)
  (.cons (.sset (.var 0) (.cst (.int 2)) (.bin .add (.idx (.var 0) (.cst (.int 2))) (.cst (.int 1))))
  (.cons (.set 2 (.bin .mod (.bin .mul (.bin .add (.idx (.var 0) (.cst (.int 1))) (.cst (.int 11))) (.bin .add (.bin .mul (.cst (.int 2)) (.idx (.var 0) (.cst (.int 2)))) (.cst (.int 5)))) (.cst (.int 2147483647))))
  (.cons (.set 3 (.bin .mod (.bin .mul (.var 2) (.var 2)) (.cst (.int 2147483647))))
  (.cons (.set 3 (.bin .mod (.bin .mul (.bin .mod (.bin .mul (.var 3) (.var 3)) (.cst (.int 2147483629))) (.var 2)) (.cst (.int 2147483587))))
  (.cons (.ret (.bin .mod (.bin .div (.bin .mod (.bin .add (.var 3) (.bin .mul (.cst (.int 7)) (.idx (.var 0) (.cst (.int 2))))) (.cst (.int 2147483579))) (.cst (.int 32))) (.var 1)))
  .nil))))))
theorem fmod_nn (a : Int) {b : Int} (h : 0 < b) : 0 ≤ a.fmod b ∧ a.fmod b < b := ⟨Int.fmod_nonneg_of_pos a h, Int.fmod_lt_of_pos a h⟩
theorem small_of {a b : Int} (h : 0 ≤ a ∧ a < b) (hb : b ≤ 2 ^ 62) : a.natAbs < 2 ^ 64 := by omega
theorem d32 (x : Int) : divOk x 32 = true := divOk_b (by decide) (Nat.lt_of_lt_of_le (show (32 : Int).natAbs < 2 ^ 64 by decide) (Nat.pow_le_pow_right (by decide) (by decide)))
theorem take_ok (O : Om) {S : Store} {l : Nat} {many : Int} (h : Purse S l) (h0 : 0 < many) (h1 : many ≤ 2 ^ 60) : ∃ d S', runD O ⟨2, 5, bTake⟩ [.ref l, .int many] S = .ok (.int d) S' ∧ 0 ≤ d ∧ d < many ∧ Drawn S l S' := by
  obtain ⟨a, b, c, e, hb0, hb1⟩ := h
  have hl := (List.getElem?_eq_some_iff.mp e).1
  have hm : many ≠ 0 := by omega
  have i0 : idxV (.ref l) (.int 0) S = .ok (.int a) S := idx_ref e (ix_0 _ _)
  have i2 : idxV (.ref l) (.int 2) S = .ok (.int c) S := idx_ref e (ix_2 _ _ _ _)
  have dm : ∀ x : Int, divOk x many = true := fun x => divOk_b hm (Nat.lt_of_lt_of_le (show many.natAbs < 2 ^ 64 by omega) (Nat.pow_le_pow_right (by decide) (by decide)))
  by_cases ha : 0 < a
  · refine ⟨a.fmod many, S.set l (.lst [.int (a.fdiv many), .int b, .int c]), ?_, (fmod_nn a h0).1, (fmod_nn a h0).2, ⟨a.fdiv many, b, c, by rw [List.getElem?_set_self hl], hb0, hb1⟩, _, rfl⟩
    have s0 : setSub (.ref l) (.int 0) (.int (a.fdiv many)) S = some (S.set l (.lst [.int (a.fdiv many), .int b, .int c])) := set_ref (i := 0) e (by simp)
    simp [runD, bTake, start0, i0, cmp_gt, ha, bop_mod_int hm, bop_div_int (dm a), s0]
  · have s2 : setSub (.ref l) (.int 2) (.int (c + 1)) S = some (S.set l (.lst [.int a, .int b, .int (c + 1)])) := set_ref (i := 2) e (by simp)
    have e' : (S.set l (.lst [.int a, .int b, .int (c + 1)]))[l]? = some (.lst [.int a, .int b, .int (c + 1)]) := List.getElem?_set_self hl
    have j1 : idxV (.ref l) (.int 1) (S.set l (.lst [.int a, .int b, .int (c + 1)])) = .ok (.int b) _ := idx_ref e' (ix_1 _ _ _)
    have j2 : idxV (.ref l) (.int 2) (S.set l (.lst [.int a, .int b, .int (c + 1)])) = .ok (.int (c + 1)) _ := idx_ref e' (ix_2 _ _ _ _)
    suffices z : ∃ x : Int, runD O ⟨2, 5, bTake⟩ [.ref l, .int many] S = .ok (.int (x.fmod many)) (S.set l (.lst [.int a, .int b, .int (c + 1)])) by
      obtain ⟨x, hx⟩ := z
      exact ⟨_, _, hx, (fmod_nn x h0).1, (fmod_nn x h0).2, ⟨a, b, c + 1, e', hb0, hb1⟩, _, rfl⟩
    have m1 : mulOk 2 (c + 1) = true := mulOk_l (by decide)
    have m2 : mulOk (b + 11) (2 * (c + 1) + 5) = true := mulOk_l (by omega)
    have m3 : mulOk 7 (c + 1) = true := mulOk_l (by decide)
    have z1 := fmod_nn ((b + 11) * (2 * (c + 1) + 5)) (show (0 : Int) < 2147483647 by decide)
    generalize hs : ((b + 11) * (2 * (c + 1) + 5)).fmod 2147483647 = sd at z1
    have m4 : mulOk sd sd = true := mulOk_l (small_of z1 (by decide))
    have z2 := fmod_nn (sd * sd) (show (0 : Int) < 2147483647 by decide)
    generalize hn : (sd * sd).fmod 2147483647 = nn at z2
    have m5 : mulOk nn nn = true := mulOk_l (small_of z2 (by decide))
    have z3 := fmod_nn (nn * nn) (show (0 : Int) < 2147483629 by decide)
    have m6 : mulOk ((nn * nn).fmod 2147483629) sd = true := mulOk_l (small_of z3 (by decide))
    refine ⟨((((nn * nn).fmod 2147483629 * sd).fmod 2147483587 + 7 * (c + 1)).fmod 2147483579).fdiv 32, ?_⟩
    simp [runD, bTake, start0, i0, i2, cmp_gt, ha, s2, j1, j2, bop_mul_int m1, bop_mul_int m2, bop_mul_int m3, bop_mod_int (show (2147483647 : Int) ≠ 0 by decide), bop_mod_int (show (2147483629 : Int) ≠ 0 by decide), bop_mod_int (show (2147483587 : Int) ≠ 0 by decide), bop_mod_int (show (2147483579 : Int) ≠ 0 by decide), bop_mod_int hm,
      bop_div_int (d32 _), hs, bop_mul_int m4, hn, bop_mul_int m5, bop_mul_int m6]
end GW
set_option exponentiation.threshold 20000
/-! Core 28: common parts, lowest terms. -/
namespace GW
open PySem
theorem whl_stop {c : Enm → Store → Res Bool} {b : Enm → Store → Fl} {m : Nat} {en : Enm} {S S1 : Store} (h : c en S = .ok false S1) : whlF c b (m + 1) en S = .nx en S1 := by
  unfold whlF; rw [h]; rfl
theorem whl_go {c : Enm → Store → Res Bool} {b : Enm → Store → Fl} {m : Nat} {en en' : Enm} {S S1 S' : Store} (h : c en S = .ok true S1) (hb : b en S1 = .nx en' S') : whlF c b (m + 1) en S = whlF c b m en' S' := by
  rw [whlF, h]
  show (b en S1).then _ = _
  rw [hb]
  rfl
theorem gcd_step (a b : Int) : Int.gcd b (a.fmod b) = Int.gcd a b := by
  rw [Int.fmod_def, Int.gcd_sub_mul_left_right, Int.gcd_comm]
theorem fmod_small (a : Int) {b : Int} (h : b ≠ 0) : (a.fmod b).natAbs < b.natAbs := by
  rcases Int.lt_or_gt_of_ne h with h | h
  · have e : (-a).fmod (-b) = -(a.fmod b) := Int.neg_fmod_neg a b
    have h1 := Int.fmod_nonneg_of_pos (-a) (show 0 < -b by omega)
    have h2 := Int.fmod_lt_of_pos (-a) (show 0 < -b by omega)
    omega
  · have h1 := Int.fmod_nonneg_of_pos a h
    have h2 := Int.fmod_lt_of_pos a h
    omega
def cCommon : E := .cmp .ne (.var 1) (.cst (.int 0))
def cPart : E := .cmp .gt (.var 1) (.cst (.int 0))
def wPart : Cs := .cons (.par 0 1 (.var 1) (.bin .mod (.var 0) (.var 1))) .nil
section
variable {O : Om} {S : Store}
theorem common_loop : ∀ (m : Nat) (a b : Int), b.natAbs < m → ∃ g : Int, g.natAbs = Int.gcd a b ∧ whlF (fun en S => (evE O cCommon en S).bind truR) (fun en S => exS O wPart en S) m [some (.int a), some (.int b)] S = .nx [some (.int g), some (.int 0)] S
  | 0, _, _, h => absurd h (Nat.not_lt_zero _)
  | m + 1, a, b, h => by
    by_cases hb : b = 0
    · subst hb
      exact ⟨a, by simp, whl_stop (by simp [cCommon, cmp_ne])⟩
    · obtain ⟨g, h1, h2⟩ := common_loop m b (a.fmod b) (by have := fmod_small a hb; omega)
      exact ⟨g, by rw [h1, gcd_step], (whl_go (by simp [cCommon, cmp_ne, hb]; rfl) (by simp [wPart, bop_mod_int hb])).trans h2⟩
theorem part_loop : ∀ (m : Nat) (a b : Int), 0 ≤ a → 0 ≤ b → b.natAbs < m → whlF (fun en S => (evE O cPart en S).bind truR) (fun en S => exS O wPart en S) m [some (.int a), some (.int b)] S = .nx [some (.int (Int.gcd a b)), some (.int 0)] S
  | 0, _, _, _, _, h => absurd h (Nat.not_lt_zero _)
  | m + 1, a, b, ha, hb0, h => by
    by_cases hb : b = 0
    · subst hb
      have e : ((a.natAbs : Nat) : Int) = a := by omega
      rw [Int.gcd_zero_right, e]
      exact whl_stop (by simp [cPart, cmp_gt])
    · have hp : 0 < b := by omega
      have h2 := part_loop m b (a.fmod b) hb0 (Int.fmod_nonneg_of_pos a hp) (by have := fmod_small a hb; omega)
      rw [gcd_step] at h2
      exact (whl_go (by simp [cPart, cmp_gt, hp]; rfl) (by simp [wPart, bop_mod_int hb])).trans h2
def bCommon : Cs := (.cons (.whl cCommon wPart)
  (.cons (.ret (.blt .abs (.cons (.var 0) .nil)))
  .nil))
def bPart : Cs := (.cons (.set 0 (.blt .abs (.cons (.var 0) .nil)))
  (.cons (.set 1 (.blt .abs (.cons (.var 1) .nil)))
  (.cons (.whl cPart wPart)
  (.cons (.ret (.var 0))
  .nil))))
@[simp] theorem abs_int (i : Int) (S : Store) : bltV .abs [.int i] S = .ok (.int i.natAbs) S := by
  show Res.ok _ _ = _
  congr 2
  split <;> omega
theorem common_ok {a b : Int} (h : b.natAbs < O.fu) : runD O ⟨2, 2, bCommon⟩ [.int a, .int b] S = .ok (.int (Int.gcd a b)) S := by
  obtain ⟨g, h1, h2⟩ := common_loop (O := O) (S := S) O.fu a b h
  simp [runD, bCommon, start0, ex_whl, h2, h1]
theorem part_ok {a b : Int} (h : b.natAbs < O.fu) : runD O ⟨2, 2, bPart⟩ [.int a, .int b] S = .ok (.int (Int.gcd a b)) S := by
  have h2 := part_loop (O := O) (S := S) O.fu a.natAbs b.natAbs (by omega) (by omega) (by simpa using h)
  rw [show Int.gcd (a.natAbs : Int) (b.natAbs : Int) = Int.gcd a b by simp [Int.gcd_eq_natAbs_gcd_natAbs]] at h2
  simp [runD, bPart, start0, ex_whl, h2]
/-- by what a ratio is cut -/
def lowB (t b : Int) : Int := if b < 0 then 0 - (Int.gcd t b : Int) else Int.gcd t b
def lowV (t b : Int) : Val := .tup [.int (t.fdiv (lowB t b)), .int (b.fdiv (lowB t b))]
def bLow (c : Nat) : Cs := (.cons (.set 2 (.call c (.cons (.var 0) (.cons (.var 1) .nil))))
  (.cons (.ife (.cmp .lt (.var 1) (.cst (.int 0))) (.cons (.set 2 (.bin .sub (.cst (.int 0)) (.var 2)))
    .nil) .nil)
  (.cons (.ret (.tpd (.cons (.bin .div (.var 0) (.var 2)) (.cons (.bin .div (.var 1) (.var 2)) .nil))))
  .nil)))
theorem lowB_abs (t b : Int) : (lowB t b).natAbs = Int.gcd t b := by
  unfold lowB
  split <;> omega
theorem gcd_le {t b : Int} (hb : b ≠ 0) : Int.gcd t b ≤ b.natAbs := Nat.le_of_dvd (by omega) (Int.natAbs_dvd_natAbs.mpr (Int.gcd_dvd_right t b))
theorem gcd_pos {t b : Int} (hb : b ≠ 0) : 0 < Int.gcd t b := Nat.pos_of_ne_zero fun z => hb (Int.gcd_eq_zero_iff.mp z).2
@[simp] theorem mkT_2 (x y : Val) (S : Store) : mkT [x, y] S = .ok (.tup [x, y]) S := if_pos (by show 2 ≤ sizeLine; decide)
@[simp] theorem mkT_1 (x : Val) (S : Store) : mkT [x] S = .ok (.tup [x]) S := if_pos (by show 1 ≤ sizeLine; decide)
@[simp] theorem mkT_3 (x y z : Val) (S : Store) : mkT [x, y, z] S = .ok (.tup [x, y, z]) S := if_pos (by show 3 ≤ sizeLine; decide)
@[simp] theorem mkT_0 (S : Store) : mkT [] S = .ok (.tup []) S := if_pos (by show 0 ≤ sizeLine; decide)
theorem low_ok {c : Nat} {t b : Int} (hb : b ≠ 0) (hs : b.natAbs < 2 ^ 9000) (hc : O.call c [.int t, .int b] S = .ok (.int (Int.gcd t b)) S) : runD O ⟨2, 3, bLow c⟩ [.int t, .int b] S = .ok (lowV t b) S := by
  have h0 : lowB t b ≠ 0 := fun z => by
    have := lowB_abs t b
    rw [z] at this
    have := gcd_pos (t := t) hb
    omega
  have h1 : (lowB t b).natAbs < 2 ^ 9000 := by
    rw [lowB_abs]
    exact Nat.lt_of_le_of_lt (gcd_le hb) hs
  have d : ∀ x, divOk x (lowB t b) = true := fun x => divOk_b h0 h1
  unfold lowV
  by_cases hn : b < 0
  · have e : lowB t b = -(Int.gcd t b : Int) := by unfold lowB; rw [if_pos hn]; omega
    rw [e] at d ⊢
    simp only [runD, bLow, start0, exs_c, ex_set, ev_call, evs_c, evs_n, ev_var, List.map_cons, List.map_nil, List.length_cons, List.length_nil, List.replicate, List.cons_append, List.nil_append, if_true]
    simp [hc, cmp_lt, hn, bop_div_int (d t), bop_div_int (d b)]
  · have e : lowB t b = (Int.gcd t b : Int) := if_neg hn
    rw [e] at d ⊢
    simp only [runD, bLow, start0, exs_c, ex_set, ev_call, evs_c, evs_n, ev_var, List.map_cons, List.map_nil, List.length_cons, List.length_nil, List.replicate, List.cons_append, List.nil_append, if_true]
    simp [hc, cmp_lt, hn, bop_div_int (d t), bop_div_int (d b)]
end
/-- a ratio in lowest terms -/
structure IsR (x y : Int) : Prop where
  pos : 0 < y
  low : Int.gcd x y = 1
theorem low_parts (t : Int) {b : Int} (hb : b ≠ 0) : ∃ x y : Int, lowV t b = .tup [.int x, .int y] ∧ x * lowB t b = t ∧ y * lowB t b = b ∧ IsR x y ∧ x.natAbs ≤ t.natAbs ∧ y.natAbs ≤ b.natAbs := by
  have hg := gcd_pos (t := t) hb
  have ha := lowB_abs t b
  have h0 : lowB t b ≠ 0 := fun z => by rw [z] at ha; simp at ha; omega
  have dt : lowB t b ∣ t := by
    rw [← Int.natAbs_dvd_natAbs, ha]
    exact Int.natAbs_dvd_natAbs.mpr (Int.gcd_dvd_left t b)
  have db : lowB t b ∣ b := by
    rw [← Int.natAbs_dvd_natAbs, ha]
    exact Int.natAbs_dvd_natAbs.mpr (Int.gcd_dvd_right t b)
  obtain ⟨x, hx⟩ := dt
  obtain ⟨y, hy⟩ := db
  have ex : t.fdiv (lowB t b) = x := by
    generalize lowB t b = q at h0 hx
    rw [hx, Int.mul_comm]
    exact Int.mul_fdiv_cancel x h0
  have ey : b.fdiv (lowB t b) = y := by
    generalize lowB t b = q at h0 hy
    rw [hy, Int.mul_comm]
    exact Int.mul_fdiv_cancel y h0
  have hx' : x * lowB t b = t := by rw [Int.mul_comm]; exact hx.symm
  have hy' : y * lowB t b = b := by rw [Int.mul_comm]; exact hy.symm
  refine ⟨x, y, by unfold lowV; rw [ex, ey], hx', hy', ⟨?_, ?_⟩, ?_, ?_⟩
  · by_cases hn : b < 0
    · have hl : lowB t b < 0 := by unfold lowB; rw [if_pos hn]; omega
      rcases Int.lt_or_le 0 y with h | h
      · exact h
      · have : 0 ≤ y * lowB t b := Int.mul_nonneg_of_nonpos_of_nonpos h (Int.le_of_lt hl)
        omega
    · have hl : 0 < lowB t b := by unfold lowB; rw [if_neg hn]; omega
      rcases Int.lt_or_le 0 y with h | h
      · exact h
      · have : y * lowB t b ≤ 0 := Int.mul_nonpos_of_nonpos_of_nonneg h (Int.le_of_lt hl)
        omega
  · have h3 := Int.gcd_mul_right x (lowB t b) y
    rw [hx', hy', ha] at h3
    have h4 : 1 * Int.gcd t b = Int.gcd x y * Int.gcd t b := by rw [Nat.one_mul]; exact h3
    exact (Nat.eq_of_mul_eq_mul_right hg h4).symm
  · rw [← hx', Int.natAbs_mul]
    exact Nat.le_mul_of_pos_right _ (by omega)
  · rw [← hy', Int.natAbs_mul]
    exact Nat.le_mul_of_pos_right _ (by omega)
/-- a ratio in lowest terms stays -/
theorem low_same {x y : Int} (h : IsR x y) : lowV x y = .tup [.int x, .int y] := by
  have e : lowB x y = 1 := by unfold lowB; rw [if_neg (by have := h.pos; omega), h.low]; rfl
  unfold lowV
  rw [e, Int.fdiv_one, Int.fdiv_one]
end GW
set_option exponentiation.threshold 20000
/-! Core 29: loops with an invariant, cells, purses. -/
namespace GW
open PySem
theorem live_nil (S : Store) : live S [] [] := fun p hp => by cases hp
theorem for_inv {cs : List Val} {xs : List (List Val)} {t : Tg} {b : Enm → Store → Fl} (P : Nat → Enm → Store → Prop) (hl : ∀ k en S, P k en S → live S cs xs) :
    ∀ (its : List Val) (k : Nat), (∀ j v en S, its[j]? = some v → P (k + j) en S → ∃ en1, putT t v en = some en1 ∧ ∃ en' S', b en1 S = .nx en' S' ∧ P (k + j + 1) en' S') → ∀ en S, P k en S → ∃ en' S', forF cs xs t b its en S = .nx en' S' ∧ P (k + its.length) en' S'
  | [], k, _, en, S, h => ⟨en, S, if_pos (hl _ _ _ h), h⟩
  | v :: r, k, hs, en, S, h => by
    obtain ⟨en1, e1, en2, S2, e2, h2⟩ := hs 0 v en S rfl h
    obtain ⟨en3, S3, e3, h3⟩ := for_inv P hl r (k + 1) (fun j u en S e p => by
      have e' : k + 1 + j = k + (j + 1) := by omega
      rw [e'] at p ⊢
      exact hs (j + 1) u en S e p) en2 S2 h2
    refine ⟨en3, S3, ?_, by rw [List.length_cons, show k + (r.length + 1) = k + 1 + r.length by omega]; exact h3⟩
    unfold forF
    rw [if_pos (hl _ _ _ h), e1]
    dsimp only
    rw [e2]
    exact e3
theorem rngL_len (n : Nat) : (rngL 0 n).length = n := by unfold rngL; simp
theorem rngL_at {n j : Nat} {v : Val} (h : (rngL 0 n)[j]? = some v) : v = .int j ∧ j < n := by
  have hj := (List.getElem?_eq_some_iff.mp h).1
  rw [rngL_len] at hj
  refine ⟨?_, hj⟩
  unfold rngL at h
  rw [List.getElem?_map, List.getElem?_range (by simpa using hj)] at h
  have := Option.some.inj h
  rw [← this]
  simp
theorem inR_nat {n : Nat} (h : n < 4611686018427387904) : inR n = true := by
  have h1 : -(2 ^ 62 : Int) ≤ (n : Int) := by omega
  have h2 : (n : Int) < 2 ^ 62 := by omega
  unfold inR
  rw [decide_eq_true h1, decide_eq_true h2]
  rfl
theorem rng_ok {n : Nat} {S : Store} (h : n < 4611686018427387904) : rng1W (.int n) S = .ok ⟨[], [], rngL 0 n⟩ S := by
  have e := inR_nat h
  unfold rng1W
  dsimp only
  rw [e]
  simp only [if_true]
section
variable {P : Pg} {fu n : Nat} {S : Store}
@[simp] theorem om_call (f : Nat) (vs : List Val) (S : Store) : (om P fu n).call f vs S = callN P fu n f vs S := rfl
@[simp] theorem om_fu : (om P fu n).fu = fu := rfl
@[simp] theorem om_nf : (om P fu n).nf = P.defs.length := rfl
@[simp] theorem om_nc : (om P fu n).nc = P.nc := rfl
@[simp] theorem om_sub : (om P fu n).sub = P.sub := rfl
/-- the body of f -/
theorem call_eq {f : Nat} {d : Df} (h : P.defs[f]? = some d) (vs : List Val) (S : Store) : callN P fu (n + 1) f vs S = runD (om P fu n) d vs S := by
  show (match P.defs[f]? with
    | some d => runD ⟨callN P fu n, fu, P.defs.length, P.nc, P.sub⟩ d vs S
    | none => .stk) = _
  rw [h]
  rfl
end
def bCell : Cs := (.cons (.ife (.cmp .lt (.var 1) (.blt .len (.cons (.var 0) .nil))) (.cons (.ret (.idx (.var 0) (.var 1)))
    .nil) .nil)
  (.cons (.ret (.bin .add (.bin .mul (.cst (.int 7919)) (.var 1)) (.cst (.int 13))))
  .nil))
theorem cell_ok (O : Om) {S : Store} (ns : List Int) (k : Nat) : ∃ c : Int, runD O ⟨2, 2, bCell⟩ [.scr (ns.map Val.int), .int k] S = .ok (.int c) S := by
  by_cases h : (k : Int) < ns.length
  · have hk : k < ns.length := by omega
    have e : idxV (.scr (ns.map Val.int)) (.int k) S = .ok (.int ns[k]) S := by
      show oV (ixV (ns.map Val.int) k) S = _
      rw [ix_nat (v := .int ns[k]) (by simp [List.getElem?_eq_getElem hk])]
      rfl
    refine ⟨ns[k], ?_⟩
    have l : bltV .len [.scr (ns.map Val.int)] S = .ok (.int ns.length) S := by
      show Res.ok (Val.int ((ns.map Val.int).length : Nat)) S = _
      rw [List.length_map]
    simp [runD, bCell, start0, l, cmp_lt, h, e]
  · have l : bltV .len [.scr (ns.map Val.int)] S = .ok (.int ns.length) S := by
      show Res.ok (Val.int ((ns.map Val.int).length : Nat)) S = _
      rw [List.length_map]
    refine ⟨7919 * k + 13, ?_⟩
    simp [runD, bCell, start0, l, cmp_lt, h, bop_mul_int (mulOk_l (i := 7919) (j := (k : Int)) (by decide))]
def bPurse : Cs := (.cons (.ret (.lsd true (.cons (.idx (.lsd false (.cons (.cst (.int 0)) (.cons (.var 0) .nil))) (.blt .int (.cons (.cmp .ge (.var 0) (.bin .pow (.cst (.int 10)) (.cst (.int 18)))) .nil))) (.cons (.bin .mod (.var 0) (.cst (.int 2147483629))) (.cons (.cst (.int 0)) .nil)))))
  .nil)
@[simp] theorem mkL_f {xs : List Val} {S : Store} (h : xs.length ≤ sizeLine) : mkL false xs S = .ok (.lst xs) S := by
  unfold mkL; rw [if_pos h]; rfl
@[simp] theorem mkL_t {xs : List Val} {S : Store} (h : xs.length ≤ sizeLine) : mkL true xs S = .ok (.ref S.length) (S ++ [.lst xs]) := by
  unfold mkL; rw [if_pos h]; rfl
theorem sz_le {n : Nat} (h : n ≤ 1000000) : n ≤ sizeLine := Nat.le_trans h (by decide)
@[simp] theorem int_bl (b : Bool) (S : Store) : bltV .int [.bl b] S = .ok (.int (if b = true then 1 else 0)) S := rfl
theorem purse_ok (O : Om) {S : Store} (c : Int) : ∃ a b : Int, 0 ≤ b ∧ b < 2147483629 ∧ runD O ⟨1, 1, bPurse⟩ [.int c] S = .ok (.ref S.length) (S ++ [.lst [.int a, .int b, .int 0]]) := by
  have p : powOk 10 18 = true := by decide
  have m := fmod_nn c (show (0 : Int) < 2147483629 by decide)
  by_cases h : c ≥ 10 ^ 18
  · refine ⟨c, c.fmod 2147483629, m.1, m.2, ?_⟩
    have h' : 1000000000000000000 ≤ c := h
    simp [runD, bPurse, start0, bop_pow_int p, cmp_ge, h', bop_mod_int (show (2147483629 : Int) ≠ 0 by decide), mkL_f (sz_le (show [Val.int 0, Val.int c].length ≤ 1000000 by simp)), mkL_t (sz_le (show [Val.int c, Val.int (c.fmod 2147483629), Val.int 0].length ≤ 1000000 by simp))]
  · refine ⟨0, c.fmod 2147483629, m.1, m.2, ?_⟩
    have h' : ¬ 1000000000000000000 ≤ c := h
    simp [runD, bPurse, start0, bop_pow_int p, cmp_ge, h', bop_mod_int (show (2147483629 : Int) ≠ 0 by decide), mkL_f (sz_le (show [Val.int 0, Val.int c].length ≤ 1000000 by simp)), mkL_t (sz_le (show [Val.int 0, Val.int (c.fmod 2147483629), Val.int 0].length ≤ 1000000 by simp))]
theorem purse_is {S : Store} {a b : Int} (h0 : 0 ≤ b) (h1 : b < 2147483629) : Purse (S ++ [.lst [.int a, .int b, .int 0]]) S.length := ⟨a, b, 0, by rw [List.getElem?_append_right (Nat.le_refl _), Nat.sub_self]; rfl, h0, h1⟩
end GW
set_option exponentiation.threshold 20000
/-! Core 30: loops over lists, comprehensions, texts. -/
namespace GW
open PySem
theorem live_1 {v : Val} {xs : List Val} {S : Store} (h : ∀ l, v ≠ .ref l) : live S [v] [xs] := by
  intro p hp
  simp only [List.zip_cons_cons, List.zip_nil_right, List.mem_cons, List.not_mem_nil, or_false] at hp
  subst hp
  cases v <;> first | trivial | exact absurd rfl (h _)
theorem live_2 {v u : Val} {xs ys : List Val} {S : Store} (h : ∀ l, v ≠ .ref l) (h' : ∀ l, u ≠ .ref l) : live S [v, u] [xs, ys] := by
  intro p hp
  simp only [List.zip_cons_cons, List.zip_nil_right, List.mem_cons, List.not_mem_nil, or_false] at hp
  rcases hp with hp | hp
  · subst hp
    cases v <;> first | trivial | exact absurd rfl (h _)
  · subst hp
    cases u <;> first | trivial | exact absurd rfl (h' _)
theorem live_t (x xs : List Val) (S : Store) : live S [.tup x] [xs] := live_1 fun _ h => by cases h
theorem live_l (x xs : List Val) (S : Store) : live S [.lst x] [xs] := live_1 fun _ h => by cases h
theorem live_ll (x y xs ys : List Val) (S : Store) : live S [.lst x, .lst y] [xs, ys] := live_2 (fun _ h => by cases h) (fun _ h => by cases h)
section
variable {cs : List Val} {xs : List (List Val)} {b : Enm → Store → Fl} {en : Enm} {S : Store} {v : Val} {r : List Val}
theorem for_n {t : Tg} (h : live S cs xs) : forF cs xs t b [] en S = .nx en S := if_pos h
theorem for_1 {i : Nat} (h : live S cs xs) : forF cs xs (.one i) b (v :: r) en S = (b (en.set i (some v)) S).then fun en2 S2 => forF cs xs (.one i) b r en2 S2 := if_pos h
theorem for_2 {i j : Nat} {u : Val} (h : live S cs xs) : forF cs xs (.tup [i, j]) b (.tup [v, u] :: r) en S = (b ((en.set i (some v)).set j (some u)) S).then fun en2 S2 => forF cs xs (.tup [i, j]) b r en2 S2 := if_pos h
end
theorem eq_pair (x y : Int) (S : Store) : eqV S (.tup [.int x, .int y]) (.tup [.int x, .int y]) = some true := by
  have : topS S (.tup [.int x, .int y]) (.tup [.int x, .int y]) = true := by simp [topS, samL, samE, scalE]
  unfold eqV
  dsimp only [scalE]
  rw [if_pos this]
section
variable {cs : List Val} {xs : List (List Val)} {en : Enm} {S : Store} {test : Enm → Store → Res Bool} {elt : Enm → Store → Res Val} {i : Nat}
@[simp] theorem noX_ok {α : Type} (a : α) (S : Store) : (Res.ok a S).noX = .ok a S := rfl
/-- a comprehension that takes nothing -/
theorem lc_none (h : live S cs xs) : ∀ {its : List Val} {acc : List Val}, (∀ v ∈ its, test (en.set i (some v)) S = .ok false S) → lcF cs xs (.one i) test elt en its acc S = .ok acc S
  | [], acc, _ => if_pos h
  | v :: r, acc, hs => by
    unfold lcF
    rw [if_pos h]
    dsimp only [putT]
    rw [hs v (List.mem_cons_self ..)]
    simp only [noX_ok, Res.bind_ok, Bool.false_eq_true, if_false]
    exact lc_none h fun u hu => hs u (List.mem_cons_of_mem _ hu)
/-- a comprehension that takes all -/
theorem lc_all (h : live S cs xs) (f : Val → Val) : ∀ {its : List Val} {acc : List Val}, (acc.length + its.length < 1000) → (∀ v ∈ its, test (en.set i (some v)) S = .ok true S ∧ elt (en.set i (some v)) S = .ok (f v) S) → lcF cs xs (.one i) test elt en its acc S = .ok (acc ++ its.map f) S
  | [], acc, _, _ => by
    unfold lcF
    rw [if_pos h]
    simp
  | v :: r, acc, hn, hs => by
    unfold lcF
    rw [if_pos h]
    dsimp only [putT]
    obtain ⟨h1, h2⟩ := hs v (List.mem_cons_self ..)
    rw [h1]
    simp only [noX_ok, Res.bind_ok, if_true, h2]
    rw [if_pos (Nat.lt_of_lt_of_le (show acc.length < 1000 by simp at hn; omega) (by decide))]
    rw [lc_all h f (by simp at hn ⊢; omega) fun u hu => hs u (List.mem_cons_of_mem _ hu)]
    simp
end

theorem runD_rt {O : Om} {d : Df} {vs : List Val} {S S' : Store} {v : Val} (hn : vs.length = d.np) (h : exS O d.body (start0 d vs) S = .rt v S') : runD O d vs S = .ok v S' := by
  unfold runD
  rw [if_pos hn, h]
theorem nil_eq (S : Store) : cmpE .eq (.lst []) (.lst []) S = some true := by
  show eqV S (.lst []) (.lst []) = _
  simp [eqV, scalE, topS, seqL, samL]
theorem nil_ne (S : Store) : cmpE .ne (.lst []) (.lst []) S = some false := by
  show (eqV S (.lst []) (.lst [])).map not = _
  simp [eqV, scalE, topS, seqL, samL]
section
variable {cs : List Val} {xs : List (List Val)} {en : Enm} {S : Store} {test : Enm → Store → Res Bool} {elt : Enm → Store → Res Val} {i : Nat}
/-- a comprehension that takes some -/
theorem lc_filt (h : live S cs xs) (p : Val → Bool) : ∀ {its : List Val} {acc : List Val}, (acc.length + its.length < 1000) → (∀ v ∈ its, test (en.set i (some v)) S = .ok (p v) S ∧ elt (en.set i (some v)) S = .ok v S) → lcF cs xs (.one i) test elt en its acc S = .ok (acc ++ its.filter p) S
  | [], acc, _, _ => by
    unfold lcF
    rw [if_pos h]
    simp
  | v :: r, acc, hn, hs => by
    unfold lcF
    rw [if_pos h]
    dsimp only [putT]
    obtain ⟨h1, h2⟩ := hs v (List.mem_cons_self ..)
    rw [h1]
    cases hp : p v
    · simp only [noX_ok, Res.bind_ok, Bool.false_eq_true, if_false]
      rw [lc_filt h p (by simp at hn ⊢; omega) fun u hu => hs u (List.mem_cons_of_mem _ hu)]
      simp [hp]
    · simp only [noX_ok, Res.bind_ok, if_true, h2]
      rw [if_pos (Nat.lt_of_lt_of_le (show acc.length < 1000 by simp at hn; omega) (by decide))]
      rw [lc_filt h p (by simp at hn ⊢; omega) fun u hu => hs u (List.mem_cons_of_mem _ hu)]
      simp [hp]
end
/-- a text by its signs -/
def tS (l : List Nat) : Val := .str ⟨⟨l⟩⟩
section
variable {S : Store}
theorem str_tS (z : Str) : ∃ l, Val.str z = tS l ∧ z.length = l.length := by
  obtain ⟨⟨l⟩⟩ := z
  exact ⟨l, rfl, rfl⟩
theorem len_s {l : List Nat} (h : l.length ≤ 1000) : bltV .len [tS l] S = .ok (.int l.length) S := by
  show (if l.length ≤ sizeLine then _ else _) = _
  rw [if_pos (Nat.le_trans h (by decide))]
  rfl
theorem slc_to {l : List Nat} (k : Nat) (h : l.length ≤ 1000) : slcV (tS l) none (some (k : Int)) S = .ok (tS (l.take k)) S := by
  show (if l.length ≤ sizeLine then _ else _) = _
  rw [if_pos (Nat.le_trans h (by decide))]
  show Res.ok (Val.str ⟨((l.drop 0).take (HT.sIx l.length l.length (some (k : Int)) - 0)).toArray⟩) S = _
  rw [HT.sIx_nat, List.drop_zero, Nat.sub_zero]
  show Res.ok (tS (l.take (min k l.length))) S = _
  congr 2
  rw [List.take_eq_take_iff]
  omega
theorem slc_from {l : List Nat} (k : Nat) (h : l.length ≤ 1000) : slcV (tS l) (some (k : Int)) none S = .ok (tS (l.drop k)) S := by
  show (if l.length ≤ sizeLine then _ else _) = _
  rw [if_pos (Nat.le_trans h (by decide))]
  show Res.ok (Val.str ⟨((l.drop (HT.sIx l.length 0 (some (k : Int)))).take (l.length - HT.sIx l.length 0 (some (k : Int)))).toArray⟩) S = _
  rw [HT.sIx_nat]
  show Res.ok (tS ((l.drop (min k l.length)).take (l.length - min k l.length))) S = _
  congr 2
  rw [List.take_of_length_le (by simp)]
  by_cases hk : k ≤ l.length
  · rw [Nat.min_eq_left hk]
  · rw [List.drop_of_length_le (by omega), List.drop_of_length_le (by omega)]
theorem items_s (l : List Nat) : items S (tS l) = some (l.map fun c => tS [c]) := rfl
theorem eq_s (a b : List Nat) : cmpE .eq (tS a) (tS b) S = some (decide (a = b)) := by
  show some (decide ((⟨⟨a⟩⟩ : Str) = ⟨⟨b⟩⟩)) = _
  congr 1
  rw [decide_eq_decide]
  constructor
  · intro h; cases h; rfl
  · intro h; rw [h]
theorem ne_s (a b : List Nat) : cmpE .ne (tS a) (tS b) S = some (!decide (a = b)) := by
  show (cmpE .eq (tS a) (tS b) S).map not = _
  rw [eq_s]
  rfl
theorem in_s (c : Nat) (b : List Nat) : cmpE .inn (tS [c]) (tS b) S = some (decide (c ∈ b)) := rfl
theorem nin_s (c : Nat) (b : List Nat) : cmpE .nin (tS [c]) (tS b) S = some (!decide (c ∈ b)) := rfl
theorem idx_s {c : Nat} {l : List Nat} (h : (c :: l).length ≤ 1000) : idxV (tS (c :: l)) (.int 0) S = .ok (tS [c]) S := by
  show (if (c :: l).length ≤ sizeLine then _ else _) = _
  rw [if_pos (Nat.le_trans h (by decide))]
  show (match L2.atI (c :: l) 0 with
    | some c => Res.ok (Val.str ⟨#[c]⟩) S
    | none => .stk) = _
  have : L2.atI (c :: l) 0 = some c := by
    unfold L2.atI L2.ixN
    rw [if_pos (by decide), if_pos (by simp only [List.length_cons]; omega)]
    rfl
  rw [this]
  rfl
theorem toD_strs (n : Nat) : ∀ l : List Nat, allD (toD S (n + 1)) (l.map fun c => tS [c]) = some (l.map fun c => .str ⟨⟨[c]⟩⟩)
  | [] => rfl
  | c :: l => by
    show (match toD S (n + 1) (tS [c]), allD (toD S (n + 1)) (l.map fun c => tS [c]) with
      | some d, some ds => some (d :: ds)
      | _, _ => none) = _
    rw [toD_strs n l]
    rfl
def Asc (l : List Nat) : Prop := ∀ c ∈ l, c < 128
theorem eq_strs_nil {l : List Nat} (hl : Asc l) : eqV S (.lst (l.map fun c => tS [c])) (.lst []) = some (decide (l = [])) := by
  cases l with
  | nil => exact nil_eq S
  | cons c l =>
    have t : topS S (.lst ((c :: l).map fun c => tS [c])) (.lst []) = false := rfl
    have d1 : toD S 12 (.lst ((c :: l).map fun c => tS [c])) = some (.list ((c :: l).map fun c => .str ⟨⟨[c]⟩⟩)) := by
      show (allD (toD S 11) ((c :: l).map fun c => tS [c])).map PyData.list = _
      rw [toD_strs 10 (c :: l)]
      rfl
    have d2 : toD S 12 (.lst []) = some (.list []) := rfl
    have ca : ∀ l : List Nat, Asc l → PyData.canLayAll0 (l.map fun c => PyData.str ⟨⟨[c]⟩⟩) = true := fun l => by
      induction l with
      | nil => exact fun _ => rfl
      | cons c l ih =>
        intro ha
        have hc := ha c (List.mem_cons_self ..)
        simp only [List.map_cons, PyData.canLayAll0, ih fun x hx => ha x (List.mem_cons_of_mem _ hx), Bool.and_true, PyData.canLay0]
        simp [PyData.strOk]
        omega
    have da : ∀ l : List Nat, PyData.depthAll (l.map fun c => PyData.str ⟨⟨[c]⟩⟩) = 0 := fun l => by
      induction l with
      | nil => rfl
      | cons c l ih => simp only [List.map_cons, PyData.depthAll, ih, PyData.depth]; rfl
    have sh : SeqAt.shaped (.list ((c :: l).map fun c => .str ⟨⟨[c]⟩⟩)) = true := by
      unfold SeqAt.shaped
      rw [Bool.and_eq_true]
      refine ⟨?_, decide_eq_true ?_⟩
      · simp only [PyData.canLay0]; exact ca _ hl
      · simp only [PyData.depth]; rw [da]; decide
    unfold eqV
    dsimp only [scalE]
    rw [t, if_neg (by decide)]
    unfold datE
    rw [d1, d2]
    dsimp only
    rw [sh]
    rfl
end
end GW
set_option exponentiation.threshold 20000
/-! Core 31: numbers drawn. -/
namespace GW
open PySem
/-- the draw from a purse stands at tk -/
structure TakeOk (O : Om) (tk : Nat) : Prop where
  run : ∀ (S : Store) (l : Nat) (many : Int), Purse S l → 0 < many → many ≤ 2 ^ 60 → ∃ d S', O.call tk [.ref l, .int many] S = .ok (.int d) S' ∧ 0 ≤ d ∧ d < many ∧ Drawn S l S'
theorem TakeOk.at {O : Om} {tk : Nat} (h : TakeOk O tk) {S : Store} {l : Nat} {many : Int} (p : Purse S l) (h0 : 0 < many) (h1 : many ≤ 2 ^ 60) : ∃ d S', O.call tk [.ref l, .int many] S = .ok (.int d) S' ∧ 0 ≤ d ∧ d < many ∧ Drawn S l S' := h.run S l many p h0 h1
theorem takeOk {P : Pg} {fu n tk : Nat} (h : P.defs[tk]? = some ⟨2, 5, bTake⟩) : TakeOk (om P fu (n + 1)) tk := ⟨fun S l many p h0 h1 => by
  show ∃ d S', callN P fu (n + 1) tk [.ref l, .int many] S = _ ∧ _
  rw [call_eq h]
  exact take_ok _ p h0 h1⟩
def wNumber (tk : Nat) : Cs := (.cons (.set 3 (.bin .add (.bin .mul (.var 3) (.bin .pow (.cst (.int 10)) (.cst (.int 6)))) (.call tk (.cons (.var 0) (.cons (.bin .pow (.cst (.int 10)) (.cst (.int 6))) .nil)))))
      .nil)
def bNumber (tk : Nat) : Cs := (.cons (.set 1 (.call tk (.cons (.var 0) (.cons (.cst (.int 16)) .nil))))
  (.cons (.set 2 (.bin .sub (.cst (.int 1)) (.bin .mul (.cst (.int 2)) (.call tk (.cons (.var 0) (.cons (.cst (.int 2)) .nil))))))
  (.cons (.ife (.cmp .eq (.var 1) (.cst (.int 15))) (.cons (.set 3 (.call tk (.cons (.var 0) (.cons (.bin .pow (.cst (.int 10)) (.cst (.int 4))) .nil))))
    (.cons (.forr (.one 4) (.rng1 (.cst (.int 4))) (wNumber tk))
    (.cons (.ret (.bin .mul (.var 2) (.var 3)))
    .nil))) .nil)
  (.cons (.ret (.bin .mul (.var 2) (.call tk (.cons (.var 0) (.cons (.idx (.lsd false (.cons (.cst (.int 10)) (.cons (.cst (.int 1000)) .nil))) (.blt .int (.cons (.cmp .gt (.var 1) (.cst (.int 12))) .nil))) .nil)))))
  .nil))))
theorem ipow_le {a : Nat} (h : 0 < a) {i j : Nat} (hj : i ≤ j) : (a : Int) ^ i ≤ (a : Int) ^ j := by
  have := Nat.pow_le_pow_right h hj
  exact_mod_cast this
theorem p10 (e : Nat) (h : e ≤ 100) : powOk 10 (e : Int) = true := by
  have : ∀ e : Fin 101, powOk 10 ((e : Nat) : Int) = true := by decide +kernel
  exact this ⟨e, by omega⟩
theorem pow_at (e : Nat) (h : e ≤ 100) (S : Store) : bopV .pow (.int 10) (.int (e : Int)) S = .ok (.int (10 ^ e)) S := by
  rw [bop_pow_int (p10 e h)]
  simp
theorem pow_4 (S : Store) : bopV .pow (.int 10) (.int 4) S = .ok (.int 10000) S := pow_at 4 (by decide) S
theorem pow_6 (S : Store) : bopV .pow (.int 10) (.int 6) S = .ok (.int 1000000) S := pow_at 6 (by decide) S
theorem pow_9 (S : Store) : bopV .pow (.int 10) (.int 9) S = .ok (.int 1000000000) S := pow_at 9 (by decide) S
theorem pow_30 (S : Store) : bopV .pow (.int 10) (.int 30) S = .ok (.int 1000000000000000000000000000000) S := pow_at 30 (by decide) S
theorem num_ok {O : Om} {tk : Nat} (hT : TakeOk O tk) {S : Store} {l : Nat} (h : Purse S l) : ∃ d S', runD O ⟨1, 5, bNumber tk⟩ [.ref l] S = .ok (.int d) S' ∧ d.natAbs < 2 ^ 100 ∧ Drawn S l S' := by
  obtain ⟨w, S1, e1, w0, w1, D1⟩ := hT.at (many := 16) h (by decide) (by decide)
  obtain ⟨t, S2, e2, t0, t1, D2⟩ := hT.at (many := 2) D1.pu (by decide) (by decide)
  have m2 : mulOk 2 t = true := mulOk_l (by decide)
  have mt : ∀ x, mulOk (1 - 2 * t) x = true := fun x => mulOk_l (by omega)
  by_cases hw : w = 15
  · obtain ⟨x0, S3, e3, x00, x01, D3⟩ := hT.at (many := 10000) D2.pu (by decide) (by decide)
    obtain ⟨en', S4, e4, x, o, e5, e6, e7, e8⟩ := for_inv (cs := []) (xs := []) (t := .one 4) (b := fun en S => exS O (wNumber tk) en S)
      (fun k en S' => ∃ (x : Int) (o : Option Val), en = [some (.ref l), some (.int w), some (.int (1 - 2 * t)), some (.int x), o] ∧ 0 ≤ x ∧ x < 10000 * 1000000 ^ k ∧ Drawn S3 l S') (fun _ _ S _ => live_nil S) (rngL 0 (4 : Nat)) 0
      (fun j v en S' hj p => by
        obtain ⟨x, o, rfl, px, py, pd⟩ := p
        refine ⟨_, rfl, ?_⟩
        obtain ⟨y, S5, f1, f2, f3, f4⟩ := hT.at (many := 1000000) pd.pu (by decide) (by decide)
        have mx : mulOk x 1000000 = true := mulOk_r (by decide)
        refine ⟨[some (.ref l), some (.int w), some (.int (1 - 2 * t)), some (.int (x * 1000000 + y)), some v], S5, by simp [wNumber, pow_6, bop_mul_int mx, f1], x * 1000000 + y, some v, rfl, by omega, ?_, pd.trans f4⟩
        rw [Nat.zero_add] at py
        rw [Nat.zero_add, Int.pow_succ]
        omega) [some (.ref l), some (.int w), some (.int (1 - 2 * t)), some (.int x0), none] S3 ⟨x0, none, rfl, x00, by simpa using x01, .refl D3.pu⟩
    subst e5
    have hx : x < 10000000000000000000000000000 := by
      rw [rngL_len] at e7
      simpa using e7
    refine ⟨(1 - 2 * t) * x, S4, ?_, ?_, (D1.trans D2).trans (D3.trans e8)⟩
    · have er : rng1W (.int 4) S3 = .ok ⟨[], [], rngL 0 (4 : Nat)⟩ S3 := rng_ok (n := 4) (by decide)
      subst hw
      simp [runD, bNumber, start0, e1, e2, bop_mul_int m2, cmp_eq, pow_4, e3, er]
      simp at e4
      simp [e4, bop_mul_int (mt x)]
    · have : t = 0 ∨ t = 1 := by omega
      rcases this with rfl | rfl <;> omega
  · have hm : 0 < (if w > 12 then 1000 else 10 : Int) ∧ (if w > 12 then 1000 else 10 : Int) ≤ 1000 := by split <;> omega
    obtain ⟨y, S3, e3, y0, y1, D3⟩ := hT.at (many := if w > 12 then 1000 else 10) D2.pu hm.1 (by omega)
    refine ⟨(1 - 2 * t) * y, S3, ?_, ?_, (D1.trans D2).trans D3⟩
    · by_cases hg : w > 12
      · rw [if_pos hg] at e3
        simp [runD, bNumber, start0, e1, e2, bop_mul_int m2, cmp_eq, cmp_gt, hw, hg, mkL_f (sz_le (show [Val.int 10, Val.int 1000].length ≤ 1000000 by simp)), e3, bop_mul_int (mt y)]
      · rw [if_neg hg] at e3
        simp [runD, bNumber, start0, e1, e2, bop_mul_int m2, cmp_eq, cmp_gt, hw, hg, mkL_f (sz_le (show [Val.int 10, Val.int 1000].length ≤ 1000000 by simp)), e3, bop_mul_int (mt y)]
    · have : t = 0 ∨ t = 1 := by omega
      have : y < 1000 := by omega
      have h' : y.natAbs < 1000 := by omega
      rcases ‹t = 0 ∨ t = 1› with rfl | rfl <;> omega
end GW
set_option exponentiation.threshold 20000
/-! Core 32: what is a number. -/
namespace GW
open PySem PySem.NumText
def numb : Val → Bool
  | .int _ => true
  | _ => false
theorem numb_isi {S : Store} {v : Val} (h : (tyN S v).isSome = true) : (isiE S v ["int"] = some false ∧ numb v = false) ∨ (isiE S v ["int"] = some true ∧ isiE S v ["bool"] = some (!numb v)) := by
  obtain ⟨t, ht⟩ := Option.isSome_iff_exists.mp h
  unfold isiE
  cases v with
  | non => exact .inl ⟨rfl, rfl⟩
  | bl b => exact .inr ⟨rfl, rfl⟩
  | int i => exact .inr ⟨rfl, rfl⟩
  | str z => exact .inl ⟨rfl, rfl⟩
  | tup xs => exact .inl ⟨rfl, rfl⟩
  | lst xs => exact .inl ⟨rfl, rfl⟩
  | ref l =>
    rw [ht]
    refine .inl ⟨?_, rfl⟩
    unfold tyN at ht
    dsimp only at ht
    split at ht
    · cases ht; rfl
    · cases ht; rfl
    · cases ht
  | _ => cases ht
theorem numb_ev {O : Om} {S : Store} {v : Val} (h : (tyN S v).isSome = true) {en : Enm} {i : Nat} (he : en[i]? = some (some v)) : evE O (.and (.isi (.var i) ["int"]) (.not (.isi (.var i) ["bool"]))) en S = .ok (.bl (numb v)) S := by
  rcases numb_isi h with ⟨h1, h2⟩ | ⟨h1, h2⟩
  · simp [he, h1, h2]
  · simp [he, h1, h2]
def bIsNum : Cs := (.cons (.ret (.and (.isi (.var 0) ["int"]) (.not (.isi (.var 0) ["bool"])))) .nil)
theorem isnum_ok {O : Om} {S : Store} {v : Val} (h : (tyN S v).isSome = true) : runD O ⟨1, 1, bIsNum⟩ [v] S = .ok (.bl (numb v)) S := by
  have e := numb_ev (O := O) (S := S) (en := [some v]) (i := 0) h rfl
  simp [-ev_and, runD, bIsNum, start0, e]
/-- low <= x <= high -/
theorem chn_ev {O : Om} {en : Enm} {S : Store} {a b c : E} {x y z : Int} (ha : evE O a en S = .ok (.int x) S) (hb : evE O b en S = .ok (.int y) S) (hc : evE O c en S = .ok (.int z) S) : evE O (.chn .le .le a b c) en S = .ok (.bl (decide (x ≤ y) && decide (y ≤ z))) S := by
  rw [ev_chn, ha, Res.bind_ok, hb, Res.bind_ok, cmp_le]
  by_cases h : x ≤ y
  · rw [decide_eq_true h]
    simp [hc, cmp_le]
  · rw [decide_eq_false h]
    simp
theorem eq_bb2 (a b : Bool) (S : Store) : eqV S (.lst [.bl a, .bl b]) (.lst [.bl a, .bl b]) = some true := by
  have : topS S (.lst [.bl a, .bl b]) (.lst [.bl a, .bl b]) = true := by simp [topS, samL, samE, scalE, seqL]
  unfold eqV
  dsimp only [scalE]
  rw [if_pos this]
/-! texts that are figures -/
def dig (c : Nat) : Bool := decide (48 ≤ c) && decide (c ≤ 57)
def figL : List Nat := [48, 49, 50, 51, 52, 53, 54, 55, 56, 57]
theorem fig_lit : Val.str "0123456789" = tS figL := rfl
theorem fig_mem (c : Nat) : decide (c ∈ figL) = dig c := by
  unfold figL dig
  rw [← Bool.decide_and, decide_eq_decide]
  simp only [List.mem_cons, List.not_mem_nil, or_false]
  omega
def fig (l : List Nat) : Bool := !decide (l = []) && l.all dig && (decide (l = [48]) || !decide (l.take 1 = [48]))
theorem all_dig {l : List Nat} (h : l.all dig = true) : AllDigits l := fun c hc => by
  have := List.all_eq_true.mp h c hc
  unfold dig at this
  simpa using this
theorem int_fig {l : List Nat} {S : Store} (h : fig l = true) (hl : l.length ≤ 600) : bltV .int [tS l] S = .ok (.int (digitsVal l)) S := by
  unfold fig at h
  simp only [Bool.and_eq_true] at h
  have e : PySem.intText? (⟨⟨l⟩⟩ : Str) = some ((digitsVal l : Nat) : Int) := intText_digits (x := ⟨⟨l⟩⟩) (all_dig h.1.2) (by simpa using h.1.1) (Nat.le_trans hl (by decide))
  show (match PySem.intText? (⟨⟨l⟩⟩ : Str) with
    | some n => if l.length ≤ 640 then Res.ok (Val.int n) S else .stk
    | none => .stk) = _
  rw [e]
  exact if_pos (by omega)
theorem blts_all (bs : List Bool) : bls? (bs.map Val.bl) = some bs := by
  induction bs with
  | nil => rfl
  | cons b bs ih =>
    show (bls? (bs.map Val.bl)).map (b :: ·) = _
    rw [ih]
    rfl
theorem all_ev {S : Store} (l : List Nat) (p : Nat → Bool) : bltV .all [.lst (l.map fun c => .bl (p c))] S = .ok (.bl (l.all p)) S := by
  have e : l.map (fun c => Val.bl (p c)) = (l.map p).map Val.bl := by simp
  show (match bls? (l.map fun c => Val.bl (p c)) with
      | some bs => Res.ok (Val.bl (bs.all id)) S
      | none => .stk) = _
  rw [e, blts_all]
  simp [List.all_map]
/-- every sign of the text is one of b's -/
theorem lc_in {O : Om} {en : Enm} {S : Store} {l b : List Nat} {i : Nat} {g : E} (hi : i < en.length) (hb : ∀ en, evE O g en S = .ok (tS b) S) (hl : l.length ≤ 900) : lcF [tS l] [l.map fun c => tS [c]] (.one i) (fun en' S' => evC O .nil en' S') (fun en' S' => evE O (.cmp .inn (.var i) g) en' S') en (l.map fun c => tS [c]) [] S = .ok (l.map fun c => .bl (decide (c ∈ b))) S := by
  have := lc_all (cs := [tS l]) (xs := [l.map fun c => tS [c]]) (en := en) (S := S) (i := i) (test := fun en' S' => evC O .nil en' S') (elt := fun en' S' => evE O (.cmp .inn (.var i) g) en' S') (live_1 fun _ h => by cases h) (fun v => match v with
    | .str z => .bl (decide ((z.cps.toList.getD 0 0) ∈ b))
    | _ => .non) (its := l.map fun c => tS [c]) (acc := []) (by simp; omega) (fun v hv => by
    obtain ⟨c, hc, rfl⟩ := List.mem_map.mp hv
    refine ⟨rfl, ?_⟩
    have e : getS (en.set i (some (tS [c]))) i S = .ok (tS [c]) S := get_s _ _ (List.getElem?_set_self hi)
    rw [ev_cmp, ev_var, e, Res.bind_ok, hb, Res.bind_ok, in_s]
    rfl)
  rw [this]
  simp [tS]
/-- the signs of the text that are none of b's -/
theorem lc_nin {O : Om} {en : Enm} {S : Store} {l b : List Nat} {i : Nat} {g : E} (hi : i < en.length) (hb : ∀ en, evE O g en S = .ok (tS b) S) (hl : l.length ≤ 900) : lcF [tS l] [l.map fun c => tS [c]] (.one i) (fun en' S' => evC O (.cons (.cmp .nin (.var i) g) .nil) en' S') (fun en' S' => evE O (.var i) en' S') en (l.map fun c => tS [c]) [] S = .ok ((l.filter fun c => !decide (c ∈ b)).map fun c => tS [c]) S := by
  have := lc_filt (cs := [tS l]) (xs := [l.map fun c => tS [c]]) (en := en) (S := S) (i := i) (test := fun en' S' => evC O (.cons (.cmp .nin (.var i) g) .nil) en' S') (elt := fun en' S' => evE O (.var i) en' S') (live_1 fun _ h => by cases h) (fun v => match v with
    | .str z => !decide ((z.cps.toList.getD 0 0) ∈ b)
    | _ => false) (its := l.map fun c => tS [c]) (acc := []) (by simp; omega) (fun v hv => by
    obtain ⟨c, hc, rfl⟩ := List.mem_map.mp hv
    have e : getS (en.set i (some (tS [c]))) i S = .ok (tS [c]) S := get_s _ _ (List.getElem?_set_self hi)
    refine ⟨?_, ?_⟩
    · show evC O (.cons (.cmp .nin (.var i) g) .nil) _ S = _
      rw [evc_c, ev_cmp, ev_var, e, Res.bind_ok, hb, Res.bind_ok, nin_s]
      cases hd : decide (c ∈ b) <;> simp [tS, hd]
    · exact e)
  rw [this]
  simp [tS, List.filter_map]
  rfl
end GW
set_option exponentiation.threshold 20000
/-! Core 33: texts put together. -/
namespace GW
open PySem
section
variable {S : Store}
theorem add_s {a b : List Nat} (h : a.length + b.length ≤ 2000) : bopV .add (tS a) (tS b) S = .ok (tS (a ++ b)) S := by
  show (if a.length + b.length ≤ sizeLine then Res.ok (Val.str ((⟨⟨a⟩⟩ : Str) ++ (⟨⟨b⟩⟩ : Str))) S else .stk) = _
  rw [if_pos (Nat.le_trans h (by decide))]
  show Res.ok (Val.str ⟨(⟨a⟩ : Array Nat) ++ ⟨b⟩⟩) S = _
  simp [tS]
theorem Asc.app {a b : List Nat} (h : Asc a) (h' : Asc b) : Asc (a ++ b) := fun c hc => by
  rcases List.mem_append.mp hc with q | q
  · exact h c q
  · exact h' c q
theorem Asc.take {a : List Nat} (h : Asc a) (k : Nat) : Asc (a.take k) := fun c hc => h c (List.mem_of_mem_take hc)
theorem Asc.drop {a : List Nat} (h : Asc a) (k : Nat) : Asc (a.drop k) := fun c hc => h c (List.mem_of_mem_drop hc)
theorem slc_mid {l : List Nat} (k : Nat) (h : l.length ≤ 1000) (ha : Asc l) : ∃ m, slcV (tS l) (some (k : Int)) (some ((k : Int) + 1)) S = .ok (tS m) S ∧ m.length ≤ 1 ∧ Asc m := by
  refine ⟨(l.drop (min k l.length)).take (min (k + 1) l.length - min k l.length), ?_, ?_, (ha.drop _).take _⟩
  · show (if l.length ≤ sizeLine then _ else _) = _
    rw [if_pos (Nat.le_trans h (by decide))]
    show Res.ok (Val.str ⟨((l.drop (HT.sIx l.length 0 (some (k : Int)))).take (HT.sIx l.length l.length (some ((k : Int) + 1)) - HT.sIx l.length 0 (some (k : Int)))).toArray⟩) S = _
    rw [show ((k : Int) + 1) = ((k + 1 : Nat) : Int) by omega, HT.sIx_nat, HT.sIx_nat]
    rfl
  · rw [List.length_take]
    omega
theorem idx_sN {l : List Nat} {i c : Nat} (h : l.length ≤ 1000) (hc : l[i]? = some c) : idxV (tS l) (.int i) S = .ok (tS [c]) S := by
  show (if l.length ≤ sizeLine then _ else _) = _
  rw [if_pos (Nat.le_trans h (by decide))]
  show (match L2.atI l i with
    | some c => Res.ok (Val.str ⟨#[c]⟩) S
    | none => .stk) = _
  have hl := (List.getElem?_eq_some_iff.mp hc).1
  have : L2.atI l (i : Int) = some c := by
    unfold L2.atI L2.ixN
    rw [if_pos (by omega), if_pos (by omega)]
    simpa using hc
  rw [this]
  rfl
theorem upper_asc : ∀ l : List Nat, Asc l → ∃ m, Txt.upper ⟨⟨l⟩⟩ = (⟨⟨m⟩⟩ : Str) ∧ Asc m ∧ m.length = l.length
  | [], _ => ⟨[], by decide, fun c hc => (by cases hc), rfl⟩
  | c :: l, h => by
    obtain ⟨m, e, ha, hl⟩ := upper_asc l fun x hx => h x (List.mem_cons_of_mem _ hx)
    have hc := h c (List.mem_cons_self ..)
    have s : (⟨⟨c :: l⟩⟩ : Str) = (⟨#[c]⟩ : Str) ++ (⟨⟨l⟩⟩ : Str) := by
      show _ = (⟨#[c] ++ ⟨l⟩⟩ : Str)
      simp
    refine ⟨(if 97 ≤ c ∧ c ≤ 122 then c - 32 else c) :: m, ?_, ?_, by simp [hl]⟩
    · rw [s, PySem.W.KOpn.upper_app, PySem.W.KOpn.upper_one hc, e]
      show (⟨#[_] ++ ⟨m⟩⟩ : Str) = _
      simp
    · intro x hx
      rcases List.mem_cons.mp hx with q | q
      · subst q
        split <;> omega
      · exact ha x q
/-- the text of a whole number -/
theorem str_int {i : Int} (h : i.natAbs < 2 ^ 300) : ∃ m, bltV .str [.int i] S = .ok (tS m) S ∧ Asc m ∧ m.length ≤ 302 := by
  have hb : i.natAbs.log2 < 301 := by
    by_cases z : i.natAbs = 0
    · rw [z]; decide
    · exact Nat.lt_trans ((Nat.log2_lt z).mpr h) (by decide)
  have hl := int_text_length_le (a := i) (k := 301) (by decide) hb
  have e : bltV .str [.int i] S = .ok (.str (Str.ofString (toString i))) S := if_pos (by omega)
  rw [← ofString_length] at hl
  have hf := fun k hk => PyProof.Rows.int_text_free' k hk i
  change ∀ k, k ≠ 45 ∧ (k < 48 ∨ 57 < k) → k ∉ (Str.ofString (toString i)).cps.toList at hf
  generalize Str.ofString (toString i) = z at e hl hf
  obtain ⟨⟨m⟩⟩ := z
  refine ⟨m, e, fun c hc => ?_, hl⟩
  refine Classical.byContradiction fun g => hf c ⟨by omega, by omega⟩ hc
end
end GW
set_option exponentiation.threshold 20000
/-! Core 34: comprehensions that draw; texts joined. -/
namespace GW
open PySem
/-- a comprehension that draws -/
theorem lc_inv {cs : List Val} {xs : List (List Val)} {i : Nat} {test : Enm → Store → Res Bool} {elt : Enm → Store → Res Val} {en : Enm} (P : List Val → Store → Prop) (hl : ∀ acc S, P acc S → live S cs xs) :
    ∀ (its acc : List Val) (S : Store), acc.length + its.length < 1000 → (∀ v ∈ its, ∀ acc S, P acc S → test (en.set i (some v)) S = .ok true S ∧ ∃ y S', elt (en.set i (some v)) S = .ok y S' ∧ P (acc ++ [y]) S') → P acc S → ∃ acc' S', lcF cs xs (.one i) test elt en its acc S = .ok acc' S' ∧ P acc' S' ∧ acc'.length = acc.length + its.length
  | [], acc, S, _, _, h => ⟨acc, S, by unfold lcF; rw [if_pos (hl _ _ h)], h, rfl⟩
  | v :: r, acc, S, hn, hs, h => by
    obtain ⟨e1, y, S', e2, h2⟩ := hs v (List.mem_cons_self ..) acc S h
    obtain ⟨acc', S2, e3, h3, h4⟩ := lc_inv P hl r (acc ++ [y]) S' (by simp at hn ⊢; omega) (fun u hu => hs u (List.mem_cons_of_mem _ hu)) h2
    refine ⟨acc', S2, ?_, h3, by rw [h4]; simp; omega⟩
    unfold lcF
    rw [if_pos (hl _ _ h)]
    dsimp only [putT]
    rw [e1]
    simp only [noX_ok, Res.bind_ok, if_true, e2]
    rw [if_pos (Nat.lt_of_lt_of_le (show acc.length < 1000 by simp at hn; omega) (by decide))]
    exact e3
theorem join_e : ∀ m : List Nat, Str.join ⟨⟨[]⟩⟩ (m.map fun c => (⟨⟨[c]⟩⟩ : Str)) = ⟨⟨m⟩⟩
  | [] => rfl
  | [c] => rfl
  | c :: d :: m => by
    have ih := join_e (d :: m)
    show (⟨⟨[c]⟩⟩ : Str) ++ (⟨⟨[]⟩⟩ : Str) ++ Str.join ⟨⟨[]⟩⟩ ((d :: m).map fun c => (⟨⟨[c]⟩⟩ : Str)) = _
    rw [ih]
    show (⟨(⟨[c]⟩ : Array Nat) ++ ⟨[]⟩ ++ ⟨d :: m⟩⟩ : Str) = _
    simp
theorem join_empty (m : List Nat) : Txt.join ⟨⟨[]⟩⟩ (m.map fun c => (⟨⟨[c]⟩⟩ : Str)) = ⟨⟨m⟩⟩ := (StrLaws.glued_eq_join _ _).trans (join_e m)
theorem strs_ones (m : List Nat) : strs? (m.map fun c => tS [c]) = some (m.map fun c => (⟨⟨[c]⟩⟩ : Str)) := by
  induction m with
  | nil => rfl
  | cons c m ih =>
    show (strs? (m.map fun c => tS [c])).map (_ :: ·) = _
    rw [ih]
    rfl
theorem sum_ones (m : List Nat) : ((m.map fun c => (⟨⟨[c]⟩⟩ : Str)).map Str.length).sum = m.length := by
  induction m with
  | nil => rfl
  | cons c m ih =>
    simp only [List.map_cons, List.sum_cons, List.length_cons]
    rw [ih]
    show 1 + m.length = _
    omega
theorem join_ok {S : Store} (m : List Nat) (h : m.length ≤ 1000) : mthV .join (tS []) [.lst (m.map fun c => tS [c])] S = .ok (tS m) S := by
  show (match strs? (m.map fun c => tS [c]) with
      | some ts => if (ts.map Str.length).sum + ts.length * 0 ≤ 16777216 then Res.ok (Val.str (Txt.join ⟨⟨[]⟩⟩ ts)) S else .stk
      | none => .stk) = _
  rw [strs_ones]
  dsimp only
  rw [sum_ones, if_pos (by omega), join_empty]
  rfl
end GW
set_option exponentiation.threshold 20000
/-! Core 35: walking forward: what an answer is asked for, statement by statement. -/
namespace GW
open PySem
abbrev Xt := Nat → List Val → Store → Prop
/-- nothing is raised -/
def nX : Xt := fun _ _ _ => False
/-- what is asked of an answer, boxed: simp does not look into it -/
class Bx (β : Type) where
  v : β
/-- the answer is good for Q, or what is raised is good for X -/
def W' {α : Type} (r : Res α) [Q : Bx (α → Store → Prop)] [X : Bx Xt] : Prop := match r with
  | .ok a S => Q.v a S
  | .exc c fs S => X.v c fs S
  | .stk => False
abbrev W {α : Type} (r : Res α) (Q : α → Store → Prop) (X : Xt) : Prop := @W' α r ⟨Q⟩ ⟨X⟩
def WF' (f : Fl) [N : Bx (Enm → Store → Prop)] [R : Bx (Val → Store → Prop)] [X : Bx (Nat → List Val → Enm → Store → Prop)] : Prop := match f with
  | .nx en S => N.v en S
  | .rt v S => R.v v S
  | .ex c fs en S => X.v c fs en S
  | .stk => False
abbrev WF (f : Fl) (N : Enm → Store → Prop) (R : Val → Store → Prop) (X : Nat → List Val → Enm → Store → Prop) : Prop := @WF' f ⟨N⟩ ⟨R⟩ ⟨X⟩
theorem W.mono {α : Type} {r : Res α} {Q Q' : α → Store → Prop} {X X' : Xt} (h : W r Q X) (hq : ∀ a S, Q a S → Q' a S) (hx : ∀ c fs S, X c fs S → X' c fs S) : W r Q' X' := by
  cases r with
  | ok a S => exact hq _ _ h
  | exc c fs S => exact hx _ _ _ h
  | stk => exact h
theorem WF.mono {f : Fl} {N N' : Enm → Store → Prop} {R R' : Val → Store → Prop} {X X' : Nat → List Val → Enm → Store → Prop} (h : WF f N R X) (hn : ∀ en S, N en S → N' en S) (hr : ∀ v S, R v S → R' v S) (hx : ∀ c fs en S, X c fs en S → X' c fs en S) : WF f N' R' X' := by
  cases f with
  | nx en S => exact hn _ _ h
  | rt v S => exact hr _ _ h
  | ex c fs en S => exact hx _ _ _ _ h
  | stk => exact h
/-- from an answer that is known -/
theorem W.of {α : Type} {r : Res α} {a : α} {S : Store} {Q : α → Store → Prop} {X : Xt} (e : r = .ok a S) (h : Q a S) : W r Q X := by rw [e]; exact h
theorem W.ofX {α : Type} {r : Res α} {c : Nat} {fs : List Val} {S : Store} {Q : α → Store → Prop} {X : Xt} (e : r = .exc c fs S) (h : X c fs S) : W r Q X := by rw [e]; exact h
theorem W.get {α : Type} {r : Res α} {Q : α → Store → Prop} (h : W r Q nX) : ∃ a S, r = .ok a S ∧ Q a S := by
  cases r with
  | ok a S => exact ⟨a, S, rfl, h⟩
  | exc c fs S => exact h.elim
  | stk => exact h.elim
section
variable {α : Type} {O : Om} {en : Enm} {S : Store} {Q : Val → Store → Prop} {X : Xt} {N : Enm → Store → Prop} {R : Val → Store → Prop} {Y : Nat → List Val → Enm → Store → Prop}
theorem W_ok {a : α} {Q : α → Store → Prop} : W (.ok a S) Q X = Q a S := (rfl)
theorem W_exc {c : Nat} {fs : List Val} {Q : α → Store → Prop} : W (.exc c fs S) Q X = X c fs S := (rfl)
theorem W_bind {β : Type} {r : Res α} {g : α → Store → Res β} {Q : β → Store → Prop} : W (r.bind g) Q X = W r (fun a S => W (g a S) Q X) X := by cases r <;> rfl
theorem WF_to {r : Res α} {g : α → Store → Fl} : WF (r.to en g) N R Y = W r (fun a S => WF (g a S) N R Y) (fun c fs S => Y c fs en S) := by cases r <;> rfl
theorem WF_then {f : Fl} {g : Enm → Store → Fl} : WF (f.then g) N R Y = WF f (fun en S => WF (g en S) N R Y) R Y := by cases f <;> rfl
theorem WF_nx : WF (.nx en S) N R Y = N en S := (rfl)
theorem WF_rt {v : Val} : WF (.rt v S) N R Y = R v S := (rfl)
theorem WF_ex {c : Nat} {fs : List Val} : WF (.ex c fs en S) N R Y = Y c fs en S := (rfl)
theorem W_ite {c : Prop} [Decidable c] {a b : Res α} {Q : α → Store → Prop} : W (if c then a else b) Q X = if c then W a Q X else W b Q X := by split <;> rfl
theorem WF_ite {c : Prop} [Decidable c] {a b : Fl} : WF (if c then a else b) N R Y = if c then WF a N R Y else WF b N R Y := by split <;> rfl
theorem W_cst (v : Val) : W (evE O (.cst v) en S) Q X = Q v S := (rfl)
theorem W_var (i : Nat) : W (evE O (.var i) en S) Q X = W (getS en i S) Q X := (rfl)
theorem W_glo (x : Str) (v : Val) : W (evE O (.glo x v) en S) Q X = Q v S := (rfl)
theorem W_bin (o : Bop) (a b : E) : W (evE O (.bin o a b) en S) Q X = W (evE O a en S) (fun x S1 => W (evE O b en S1) (fun y S2 => W (bopV o x y S2) Q X) X) X := by
  rw [ev_bin, W_bind]; simp only [W_bind]
theorem W_neg (a : E) : W (evE O (.neg a) en S) Q X = W (evE O a en S) (fun x S1 => W (negV x S1) Q X) X := by rw [ev_neg, W_bind]
theorem W_not (a : E) : W (evE O (.not a) en S) Q X = W (evE O a en S) (fun x S1 => W (truR x S1) (fun c S2 => Q (.bl (!c)) S2) X) X := by
  rw [ev_not, W_bind]; simp only [W_bind]; rfl
theorem W_and (a b : E) : W (evE O (.and a b) en S) Q X = W (evE O a en S) (fun x S1 => W (truR x S1) (fun c S2 => if c = true then W (evE O b en S2) Q X else Q x S2) X) X := by
  rw [ev_and, W_bind]; simp only [W_bind, W_ite]; rfl
theorem W_or (a b : E) : W (evE O (.or a b) en S) Q X = W (evE O a en S) (fun x S1 => W (truR x S1) (fun c S2 => if c = true then Q x S2 else W (evE O b en S2) Q X) X) X := by
  rw [ev_or, W_bind]; simp only [W_bind, W_ite]; rfl
theorem W_cmp (o : Cop) (a b : E) : W (evE O (.cmp o a b) en S) Q X = W (evE O a en S) (fun x S1 => W (evE O b en S1) (fun y S2 => W (optB S2 (cmpE o x y S2)) Q X) X) X := by
  rw [ev_cmp, W_bind]; simp only [W_bind]
theorem W_chn (o p : Cop) (a b c : E) : W (evE O (.chn o p a b c) en S) Q X = W (evE O a en S) (fun x S1 => W (evE O b en S1) (fun y S2 => W (optB S2 (cmpE o x y S2)) (fun d S3 => W (truR d S3) (fun d S3 => if d = true then W (evE O c en S3) (fun z S4 => W (optB S4 (cmpE p y z S4)) Q X) X else Q (.bl false) S3) X) X) X) X := by
  rw [ev_chn, W_bind]; simp only [W_bind]
  congr 1; funext x S1; congr 1; funext y S2
  cases cmpE o x y S2 with
  | none => rfl
  | some b => cases b <;> simp [optB, W_ok, W_bind]
theorem W_ife (c a b : E) : W (evE O (.ife c a b) en S) Q X = W (evE O c en S) (fun x S1 => W (truR x S1) (fun d S2 => if d = true then W (evE O a en S2) Q X else W (evE O b en S2) Q X) X) X := by
  rw [ev_ife, W_bind]; simp only [W_bind, W_ite]
theorem W_isi (a : E) (ts : List String) : W (evE O (.isi a ts) en S) Q X = W (evE O a en S) (fun x S1 => W (optB S1 (isiE S1 x ts)) Q X) X := by rw [ev_isi, W_bind]
theorem W_idx (a i : E) : W (evE O (.idx a i) en S) Q X = W (evE O a en S) (fun x S1 => W (evE O i en S1) (fun y S2 => W (idxV x y S2) Q X) X) X := by
  rw [ev_idx, W_bind]; simp only [W_bind]
theorem W_slc (a : E) (lo hi : Po) : W (evE O (.slc a lo hi) en S) Q X = W (evE O a en S) (fun x S1 => W (evP O lo en S1) (fun l S2 => W (evP O hi en S2) (fun h S3 => W (slcV x l h S3) Q X) X) X) X := by
  rw [ev_slc, W_bind]; simp only [W_bind]
theorem W_slcR (a : E) (lo hi : Po) : W (evE O (.slcR a lo hi) en S) Q X = W (evE O a en S) (fun x S1 => W (evP O lo en S1) (fun l S2 => W (evP O hi en S2) (fun h S3 => W (slcRV x l h S3) Q X) X) X) X := by
  rw [ev_slcR, W_bind]; simp only [W_bind]
theorem W_tpd (es : Es) : W (evE O (.tpd es) en S) Q X = W (evs O es en S) (fun xs S1 => W (mkT xs S1) Q X) X := by rw [ev_tpd, W_bind]
theorem W_lsd (b : Bool) (es : Es) : W (evE O (.lsd b es) en S) Q X = W (evs O es en S) (fun xs S1 => W (mkL b xs S1) Q X) X := by rw [ev_lsd, W_bind]
theorem W_dcd (ks vs : Es) : W (evE O (.dcd ks vs) en S) Q X = W (evs O ks en S) (fun ks S1 => W (evs O vs en S1) (fun vs S2 => W (mkD ks vs S2) Q X) X) X := by
  rw [ev_dcd, W_bind]; simp only [W_bind]
theorem W_blt (f : Blt) (es : Es) : W (evE O (.blt f es) en S) Q X = W (evs O es en S) (fun xs S1 => W (bltV f xs S1) Q X) X := by rw [ev_blt, W_bind]
theorem W_call (f : Nat) (es : Es) : W (evE O (.call f es) en S) Q X = W (evs O es en S) (fun xs S1 => W (O.call f xs S1) Q X) X := by rw [ev_call, W_bind]
theorem W_mth (m : Mth) (o : E) (es : Es) : W (evE O (.mth m o es) en S) Q X = W (evE O o en S) (fun x S1 => if tyOk m x S1 = true then W (evs O es en S1) (fun xs S2 => W (mthV m x xs S2) Q X) X else False) X := by
  rw [ev_mth, W_bind]; simp only [W_bind, W_ite]; rfl
theorem W_lc (b : Bool) (t : Tg) (it : It) (cs : Es) (e : E) : W (evE O (.lc b t it cs e) en S) Q X = W (evI O it en S) (fun wk S1 => W (lcF wk.cs wk.xs t (fun en' S' => evC O cs en' S') (fun en' S' => evE O e en' S') en wk.its [] S1) (fun ys S2 => W (mkL b ys S2) Q X) X) X := by
  rw [ev_lc, W_bind]; simp only [W_bind]
theorem W_callv (i : Nat) (es : Es) {f : Nat} (h : en[i]? = some (some (.fn f))) (hf : f < O.nf) : W (evE O (.callv i es) en S) Q X = W (evs O es en S) (fun xs S1 => W (O.call f xs S1) Q X) X := by
  rw [ev_callv, h]; dsimp only; rw [if_pos hf, W_bind]
theorem Ws_n {Q : List Val → Store → Prop} : W (evs O .nil en S) Q X = Q [] S := (rfl)
theorem Ws_c (e : E) (es : Es) {Q : List Val → Store → Prop} : W (evs O (.cons e es) en S) Q X = W (evE O e en S) (fun x S1 => W (evs O es en S1) (fun xs S2 => Q (x :: xs) S2) X) X := by
  rw [evs_c, W_bind]; simp only [W_bind]; rfl
theorem Wp_n {Q : Option Int → Store → Prop} : W (evP O .no en S) Q X = Q none S := (rfl)
def intQ (Q : Option Int → Store → Prop) : Val → Store → Prop := fun x S => match x with
  | .int i => Q (some i) S
  | _ => False
theorem intQ_i {Q : Option Int → Store → Prop} (i : Int) : intQ Q (.int i) S = Q (some i) S := (rfl)
theorem Wp_y (e : E) {Q : Option Int → Store → Prop} : W (evP O (.yes e) en S) Q X = W (evE O e en S) (intQ Q) X := by
  rw [evp_y, W_bind]
  congr 1; funext x S1; cases x <;> rfl
theorem Wc_n {Q : Bool → Store → Prop} : W (evC O .nil en S) Q X = Q true S := (rfl)
theorem Wc_c (e : E) (es : Es) {Q : Bool → Store → Prop} : W (evC O (.cons e es) en S) Q X = W (evE O e en S) (fun x S1 => W (truR x S1) (fun c S2 => if c = true then W (evC O es en S2) Q X else Q false S2) X) X := by
  rw [evc_c, W_bind]; simp only [W_bind, W_ite]; rfl
theorem Wi_val (e : E) {Q : Wk → Store → Prop} : W (evI O (.val e) en S) Q X = W (evE O e en S) (fun v S1 => ∃ xs, items S1 v = some xs ∧ Q ⟨[v], [xs], xs⟩ S1) X := by
  rw [evi_val, W_bind]
  congr 1; funext v S1
  cases items S1 v with
  | none => simp [W, W']
  | some xs => simp [W, W']
theorem Wi_rng1 (e : E) {Q : Wk → Store → Prop} : W (evI O (.rng1 e) en S) Q X = W (evE O e en S) (fun v S1 => W (rng1W v S1) Q X) X := by rw [evi_rng1, W_bind]
theorem Wi_rng2 (a b : E) {Q : Wk → Store → Prop} : W (evI O (.rng2 a b) en S) Q X = W (evE O a en S) (fun v S1 => W (evE O b en S1) (fun u S2 => W (rng2W v u S2) Q X) X) X := by
  rw [evi_rng2, W_bind]; simp only [W_bind]
theorem Wi_enm (e : E) {Q : Wk → Store → Prop} : W (evI O (.enm e) en S) Q X = W (evE O e en S) (fun v S1 => ∃ xs, lstI S1 v = some xs ∧ Q ⟨[v], [xs], xs.mapIdx fun (k : Nat) x => .tup [.int k, x]⟩ S1) X := by
  rw [evi_enm, W_bind]
  congr 1; funext v S1
  cases lstI S1 v with
  | none => simp [W, W']
  | some xs => simp [W, W']
theorem Wi_zip (a b : E) {Q : Wk → Store → Prop} : W (evI O (.zip a b) en S) Q X = W (evE O a en S) (fun v S1 => W (evE O b en S1) (fun u S2 => W (zipW v u S2) Q X) X) X := by
  rw [evi_zip, W_bind]; simp only [W_bind]
theorem Wi_rev (e : E) {Q : Wk → Store → Prop} : W (evI O (.rev e) en S) Q X = W (evE O e en S) (fun v S1 => W (revW v S1) Q X) X := by rw [evi_rev, W_bind]
theorem F_set (i : Nat) (e : E) : WF (exC O (.set i e) en S) N R Y = W (evE O e en S) (fun v S1 => N (en.set i (some v)) S1) (fun c fs S1 => Y c fs en S1) := by rw [ex_set, WF_to]; rfl
theorem F_tset (is : List Nat) (e : E) : WF (exC O (.tset is e) en S) N R Y = W (evE O e en S) (fun v S1 => ∃ en', putT (.tup is) v en = some en' ∧ N en' S1) (fun c fs S1 => Y c fs en S1) := by
  rw [ex_tset, WF_to]
  congr 1; funext v S1
  cases putT (.tup is) v en <;> simp [WF, WF']
theorem F_par (i j : Nat) (a b : E) : WF (exC O (.par i j a b) en S) N R Y = W (evE O a en S) (fun x S1 => W (evE O b en S1) (fun y S2 => N ((en.set i (some x)).set j (some y)) S2) (fun c fs S1 => Y c fs en S1)) (fun c fs S1 => Y c fs en S1) := by
  rw [ex_par, WF_to]; simp only [WF_to]; rfl
theorem F_sset (a i e : E) : WF (exC O (.sset a i e) en S) N R Y = W (evE O e en S) (fun v S1 => W (evE O a en S1) (fun x S2 => W (evE O i en S2) (fun k S3 => ∃ S4, setSub x k v S3 = some S4 ∧ N en S4) (fun c fs S1 => Y c fs en S1)) (fun c fs S1 => Y c fs en S1)) (fun c fs S1 => Y c fs en S1) := by
  rw [ex_sset, WF_to]; simp only [WF_to]
  congr 1; funext v S1; congr 1; funext x S2; congr 1; funext k S3
  cases setSub x k v S3 <;> simp [WF, WF']
theorem F_exp (e : E) : WF (exC O (.exp e) en S) N R Y = W (evE O e en S) (fun _ S1 => N en S1) (fun c fs S1 => Y c fs en S1) := by rw [ex_exp, WF_to]; rfl
theorem F_ret (e : E) : WF (exC O (.ret e) en S) N R Y = W (evE O e en S) (fun v S1 => R v S1) (fun c fs S1 => Y c fs en S1) := by rw [ex_ret, WF_to]; rfl
theorem F_retN : WF (exC O .retN en S) N R Y = R .non S := (rfl)
theorem F_pas : WF (exC O .pas en S) N R Y = N en S := (rfl)
theorem F_ife (c : E) (a b : Cs) : WF (exC O (.ife c a b) en S) N R Y = W (evE O c en S) (fun x S1 => W (truR x S1) (fun d S2 => if d = true then WF (exS O a en S2) N R Y else WF (exS O b en S2) N R Y) (fun c fs S1 => Y c fs en S1)) (fun c fs S1 => Y c fs en S1) := by
  rw [ex_ife, WF_to, W_bind]; simp only [WF_ite]
theorem F_whl (c : E) (b : Cs) : WF (exC O (.whl c b) en S) N R Y = WF (whlF (fun en S => (evE O c en S).bind truR) (fun en S => exS O b en S) O.fu en S) N R Y := (rfl)
theorem F_for (t : Tg) (it : It) (b : Cs) : WF (exC O (.forr t it b) en S) N R Y = W (evI O it en S) (fun wk S1 => WF (forF wk.cs wk.xs t (fun en S => exS O b en S) wk.its en S1) N R Y) (fun c fs S1 => Y c fs en S1) := by rw [ex_forr, WF_to]
theorem F_rai (c : Nat) (es : Es) : WF (exC O (.rai c es) en S) N R Y = W (evs O es en S) (fun xs S1 => Y c xs.reverse en S1) (fun c fs S1 => Y c fs en S1) := by rw [ex_rai, WF_to]; rfl
theorem F_tri (b : Cs) (hs : Hs) : WF (exC O (.tri b hs) en S) N R Y = WF (exS O b en S) N R (fun c fs en' S' => c < O.nc ∧ WF (exH O hs c fs en' S') N R Y) := by
  rw [ex_tri]
  cases exS O b en S with
  | ex c fs en' S' => by_cases h : c < O.nc <;> simp [h, WF, WF']
  | _ => rfl
theorem S_n : WF (exS O .nil en S) N R Y = N en S := (rfl)
theorem S_c (c : C) (cs : Cs) : WF (exS O (.cons c cs) en S) N R Y = WF (exC O c en S) (fun en S => WF (exS O cs en S) N R Y) R Y := by rw [exs_c, WF_then]
theorem H_n (c : Nat) (fs : List Val) : WF (exH O .nil c fs en S) N R Y = Y c fs en S := (rfl)
theorem H_some (k i : Nat) (b : Cs) (hs : Hs) (c : Nat) (fs : List Val) : WF (exH O (.cons k (some i) b hs) c fs en S) N R Y = if O.sub c k = true then (c = k ∧ WF (exS O b (en.set i none ++ [some (.exc c fs)]) S) (fun en' S' => N ((en'.take en.length).set i none) S') R (fun _ _ _ _ => False)) else WF (exH O hs c fs en S) N R Y := by
  rw [exh_c, WF_ite]
  congr 1
  dsimp only
  by_cases h : c = k
  · rw [if_pos h]
    cases exS O b (en.set i none ++ [some (.exc c fs)]) S <;> simp [Fl.out, WF, WF', h]
  · rw [if_neg h]; simp [WF, WF', h]
theorem H_none (k : Nat) (b : Cs) (hs : Hs) (c : Nat) (fs : List Val) : WF (exH O (.cons k none b hs) c fs en S) N R Y = if O.sub c k = true then WF (exS O b en S) N R (fun _ _ _ _ => False) else WF (exH O hs c fs en S) N R Y := by
  rw [exh_c, WF_ite]
  congr 1
  show WF (exS O b en S).noX N R Y = _
  cases exS O b en S <;> rfl
theorem W_noX {r : Res α} {Q : α → Store → Prop} : W r.noX Q X = W r Q nX := by cases r <;> rfl
theorem W_run {d : Df} {vs : List Val} (hn : vs.length = d.np) : W (runD O d vs S) Q X = WF (exS O d.body (start0 d vs) S) (fun _ S' => Q .non S') Q (fun c fs _ S' => X c fs S') := by
  unfold runD
  rw [if_pos hn]
  cases exS O d.body (start0 d vs) S <;> rfl
/-! leaves -/
theorem W_getS0 {v : Val} {r : Enm} : W (getS (some v :: r) 0 S) Q X = Q v S := (rfl)
theorem getS_s {o : Option Val} {r : Enm} {i : Nat} : getS (o :: r) (i + 1) S = getS r i S := (rfl)
theorem getS_0 {v : Val} {r : Enm} : getS (some v :: r) 0 S = .ok v S := (rfl)
theorem W_optB (b : Bool) : W (optB S (some b)) Q X = Q (.bl b) S := (rfl)
theorem W_truB (b : Bool) {Q : Bool → Store → Prop} : W (truR (.bl b) S) Q X = Q b S := (rfl)
theorem W_mkT {xs : List Val} : W (mkT xs S) Q X = (xs.length ≤ 16777216 ∧ Q (.tup xs) S) := by
  unfold mkT
  have : sizeLine = 16777216 := by decide
  rw [this]
  by_cases h : xs.length ≤ 16777216 <;> simp [h, W, W']
theorem W_newR {xs : List Val} : W (newR xs S) Q X = (xs.length ≤ 16777216 ∧ Q (.ref S.length) (S ++ [.lst xs])) := by
  unfold newR
  have : sizeLine = 16777216 := by decide
  rw [this]
  by_cases h : xs.length ≤ 16777216 <;> simp [h, W, W']
theorem W_mkLf {xs : List Val} : W (mkL false xs S) Q X = (xs.length ≤ 16777216 ∧ Q (.lst xs) S) := by
  unfold mkL
  have : sizeLine = 16777216 := by decide
  rw [this]
  by_cases h : xs.length ≤ 16777216 <;> simp [h, W, W']
theorem W_mkLt {xs : List Val} : W (mkL true xs S) Q X = (xs.length ≤ 16777216 ∧ Q (.ref S.length) (S ++ [.lst xs])) := by
  unfold mkL
  have : sizeLine = 16777216 := by decide
  rw [this]
  by_cases h : xs.length ≤ 16777216 <;> simp [h, W, W']
theorem W_add (i j : Int) : W (bopV .add (.int i) (.int j) S) Q X = Q (.int (i + j)) S := (rfl)
theorem W_sub (i j : Int) : W (bopV .sub (.int i) (.int j) S) Q X = Q (.int (i - j)) S := (rfl)
theorem W_mul (i j : Int) : W (bopV .mul (.int i) (.int j) S) Q X = (mulOk i j = true ∧ Q (.int (i * j)) S) := by
  show W (if mulOk i j = true then _ else _) Q X = _
  by_cases h : mulOk i j = true <;> simp [h, W, W']
theorem W_div (i j : Int) : W (bopV .div (.int i) (.int j) S) Q X = (divOk i j = true ∧ Q (.int (i.fdiv j)) S) := by
  show W (if divOk i j = true then _ else _) Q X = _
  by_cases h : divOk i j = true <;> simp [h, W, W']
theorem W_mod (i j : Int) : W (bopV .mod (.int i) (.int j) S) Q X = (j ≠ 0 ∧ Q (.int (i.fmod j)) S) := by
  show W (if j ≠ 0 then _ else _) Q X = _
  by_cases h : j = 0 <;> simp [h, W, W']
theorem W_powOf {i j : Int} (h : powOk i j = true) : W (bopV .pow (.int i) (.int j) S) Q X = Q (.int (i ^ j.toNat)) S := by rw [bop_pow_int h]; rfl
theorem W_addL {a b : List Val} : W (bopV .add (.lst a) (.lst b) S) Q X = (a.length + b.length ≤ 16777216 ∧ Q (.lst (a ++ b)) S) := by
  have : sizeLine = 16777216 := by decide
  show W (lim _ _ S) Q X = _
  unfold lim
  rw [this]
  by_cases h : a.length + b.length ≤ 16777216 <;> simp [h, W, W']
theorem W_addT {a b : List Val} : W (bopV .add (.tup a) (.tup b) S) Q X = (a.length + b.length ≤ 16777216 ∧ Q (.tup (a ++ b)) S) := by
  have : sizeLine = 16777216 := by decide
  show W (lim _ _ S) Q X = _
  unfold lim
  rw [this]
  by_cases h : a.length + b.length ≤ 16777216 <;> simp [h, W, W']
theorem W_lenT {xs : List Val} : W (bltV .len [.tup xs] S) Q X = Q (.int xs.length) S := (rfl)
theorem W_lenL {xs : List Val} : W (bltV .len [.lst xs] S) Q X = Q (.int xs.length) S := (rfl)
theorem W_lenC {xs : List Val} : W (bltV .len [.scr xs] S) Q X = Q (.int xs.length) S := (rfl)
theorem W_abs {i : Int} : W (bltV .abs [.int i] S) Q X = Q (.int i.natAbs) S := by rw [abs_int]; rfl
theorem W_intB (b : Bool) : W (bltV .int [.bl b] S) Q X = Q (.int (if b = true then 1 else 0)) S := (rfl)
theorem W_intI (i : Int) : W (bltV .int [.int i] S) Q X = Q (.int i) S := (rfl)
theorem W_tupleL {xs : List Val} : W (bltV .tuple [.lst xs] S) Q X = Q (.tup xs) S := (rfl)
theorem W_tupleT {xs : List Val} : W (bltV .tuple [.tup xs] S) Q X = Q (.tup xs) S := (rfl)
theorem W_listL {xs : List Val} : W (bltV .list [.lst xs] S) Q X = W (mkL false xs S) Q X := (rfl)
theorem W_listT {xs : List Val} : W (bltV .list [.tup xs] S) Q X = W (mkL false xs S) Q X := (rfl)
theorem W_listRL {xs : List Val} : W (bltV .listR [.lst xs] S) Q X = W (mkL true xs S) Q X := (rfl)
theorem W_listRT {xs : List Val} : W (bltV .listR [.tup xs] S) Q X = W (mkL true xs S) Q X := (rfl)
theorem W_neg' (i : Int) : W (negV (.int i) S) Q X = Q (.int (-i)) S := (rfl)
theorem W_max2 (i j : Int) : W (bltV .max2 [.int i, .int j] S) Q X = Q (.int (max i j)) S := by
  show Q (.int (if j > i then j else i)) S = _
  congr 2; omega
theorem W_min2 (i j : Int) : W (bltV .min2 [.int i, .int j] S) Q X = Q (.int (min i j)) S := by
  show Q (.int (if j < i then j else i)) S = _
  congr 2; omega
theorem W_eqI (i j : Int) : W (optB S (cmpE .eq (.int i) (.int j) S)) Q X = Q (.bl (decide (i = j))) S := (rfl)
theorem W_neI (i j : Int) : W (optB S (cmpE .ne (.int i) (.int j) S)) Q X = Q (.bl (!decide (i = j))) S := (rfl)
theorem W_ltI (i j : Int) : W (optB S (cmpE .lt (.int i) (.int j) S)) Q X = Q (.bl (decide (i < j))) S := (rfl)
theorem W_leI (i j : Int) : W (optB S (cmpE .le (.int i) (.int j) S)) Q X = Q (.bl (decide (i ≤ j))) S := (rfl)
theorem W_gtI (i j : Int) : W (optB S (cmpE .gt (.int i) (.int j) S)) Q X = Q (.bl (decide (j < i))) S := (rfl)
theorem W_geI (i j : Int) : W (optB S (cmpE .ge (.int i) (.int j) S)) Q X = Q (.bl (decide (j ≤ i))) S := (rfl)
theorem W_isN (i : Val) : W (optB S (cmpE .is .non .non S)) Q X = Q (.bl true) S := (rfl)
theorem W_idxT0 {x : Val} {xs : List Val} : W (idxV (.tup (x :: xs)) (.int 0) S) Q X = Q x S := by rw [idx_tup0]; rfl
theorem W_idxT1 {x y : Val} {xs : List Val} : W (idxV (.tup (x :: y :: xs)) (.int 1) S) Q X = Q y S := by rw [idx_tup1]; rfl
theorem W_idxT2 {x y z : Val} {xs : List Val} : W (idxV (.tup (x :: y :: z :: xs)) (.int 2) S) Q X = Q z S := by
  unfold idxV; dsimp only; rw [ix_2]; rfl
theorem W_idxTN {xs : List Val} {k : Nat} {v : Val} (h : xs[k]? = some v) : W (idxV (.tup xs) (.int k) S) Q X = Q v S := by
  unfold idxV; dsimp only; rw [ix_nat h]; rfl
theorem W_idxLN {xs : List Val} {k : Nat} {v : Val} (h : xs[k]? = some v) : W (idxV (.lst xs) (.int k) S) Q X = Q v S := by
  unfold idxV; dsimp only; rw [ix_nat h]; rfl
theorem W_rng {n : Nat} {Q : Wk → Store → Prop} (h : n < 4611686018427387904) : W (rng1W (.int n) S) Q X = Q ⟨[], [], rngL 0 n⟩ S := by rw [rng_ok h]; rfl
theorem items_t (xs : List Val) : items S (.tup xs) = some xs := (rfl)
theorem items_l (xs : List Val) : items S (.lst xs) = some xs := (rfl)
theorem W_zipTT {xs ys : List Val} {Q : Wk → Store → Prop} : W (zipW (.tup xs) (.tup ys) S) Q X = Q ⟨[], [], (xs.zip ys).map fun p => .tup [p.1, p.2]⟩ S := (rfl)
theorem W_zipLL {xs ys : List Val} {Q : Wk → Store → Prop} : W (zipW (.lst xs) (.lst ys) S) Q X = Q ⟨[.lst xs, .lst ys], [xs, ys], (xs.zip ys).map fun p => .tup [p.1, p.2]⟩ S := (rfl)
theorem ex_some {α : Type} {v : α} {p : α → Prop} : (∃ x, some v = some x ∧ p x) = p v := by
  apply propext
  constructor
  · rintro ⟨x, e, h⟩
    cases e
    exact h
  · exact fun h => ⟨v, rfl, h⟩
end
/-! isinstance -/
section
variable {S : Store} {b : Bool} {i : Int} {z : Str} {xs : List Val}
theorem isi_t_int : isiE S (.tup xs) ["int"] = some false := (rfl)
theorem isi_t_bool : isiE S (.tup xs) ["bool"] = some false := (rfl)
theorem isi_t_str : isiE S (.tup xs) ["str"] = some false := (rfl)
theorem isi_t_tup : isiE S (.tup xs) ["tuple"] = some true := (rfl)
theorem isi_t_lst : isiE S (.tup xs) ["list"] = some false := (rfl)
theorem isi_t_lt : isiE S (.tup xs) ["list", "tuple"] = some true := (rfl)
theorem isi_l_int : isiE S (.lst xs) ["int"] = some false := (rfl)
theorem isi_l_bool : isiE S (.lst xs) ["bool"] = some false := (rfl)
theorem isi_l_str : isiE S (.lst xs) ["str"] = some false := (rfl)
theorem isi_l_tup : isiE S (.lst xs) ["tuple"] = some false := (rfl)
theorem isi_l_lst : isiE S (.lst xs) ["list"] = some true := (rfl)
theorem isi_l_lt : isiE S (.lst xs) ["list", "tuple"] = some true := (rfl)
theorem isi_i_int : isiE S (.int i) ["int"] = some true := (rfl)
theorem isi_i_bool : isiE S (.int i) ["bool"] = some false := (rfl)
theorem isi_i_str : isiE S (.int i) ["str"] = some false := (rfl)
theorem isi_i_tup : isiE S (.int i) ["tuple"] = some false := (rfl)
theorem isi_i_lst : isiE S (.int i) ["list"] = some false := (rfl)
theorem isi_i_lt : isiE S (.int i) ["list", "tuple"] = some false := (rfl)
theorem isi_b_int : isiE S (.bl b) ["int"] = some true := (rfl)
theorem isi_b_bool : isiE S (.bl b) ["bool"] = some true := (rfl)
theorem isi_b_str : isiE S (.bl b) ["str"] = some false := (rfl)
theorem isi_b_tup : isiE S (.bl b) ["tuple"] = some false := (rfl)
theorem isi_b_lst : isiE S (.bl b) ["list"] = some false := (rfl)
theorem isi_b_lt : isiE S (.bl b) ["list", "tuple"] = some false := (rfl)
theorem isi_s_int : isiE S (.str z) ["int"] = some false := (rfl)
theorem isi_s_bool : isiE S (.str z) ["bool"] = some false := (rfl)
theorem isi_s_str : isiE S (.str z) ["str"] = some true := (rfl)
theorem isi_s_tup : isiE S (.str z) ["tuple"] = some false := (rfl)
theorem isi_s_lst : isiE S (.str z) ["list"] = some false := (rfl)
theorem isi_s_lt : isiE S (.str z) ["list", "tuple"] = some false := (rfl)
theorem isi_n_int : isiE S .non ["int"] = some false := (rfl)
theorem isi_n_bool : isiE S .non ["bool"] = some false := (rfl)
theorem isi_n_str : isiE S .non ["str"] = some false := (rfl)
theorem isi_n_tup : isiE S .non ["tuple"] = some false := (rfl)
theorem isi_n_lst : isiE S .non ["list"] = some false := (rfl)
theorem isi_n_lt : isiE S .non ["list", "tuple"] = some false := (rfl)
end
end GW
local macro_rules
  | `(tactic| simp! [$[$ls],*]) => `(tactic| try simp only [GW.W, GW.WF, GW.W_ok, GW.W_exc, GW.WF_nx, GW.WF_rt, GW.WF_ex, GW.W_cst, GW.W_var, GW.W_glo, GW.W_bin, GW.W_neg, GW.W_not, GW.W_and, GW.W_or, GW.W_cmp, GW.W_chn, GW.W_ife, GW.W_isi, GW.W_idx, GW.W_slc, GW.W_slcR, GW.W_newR, GW.W_tpd, GW.W_lsd, GW.W_dcd, GW.W_blt, GW.W_call, GW.W_mth, GW.W_lc, GW.Ws_n, GW.Ws_c, GW.Wp_n, GW.intQ_i, GW.Wp_y, GW.Wc_n, GW.Wc_c, GW.Wi_val, GW.Wi_rng1, GW.Wi_rng2, GW.Wi_enm, GW.Wi_zip, GW.Wi_rev, GW.F_set, GW.F_tset, GW.F_par, GW.F_sset, GW.F_exp, GW.F_ret, GW.F_retN, GW.F_pas, GW.F_ife, GW.F_for, GW.F_rai, GW.F_tri, GW.S_n, GW.S_c, GW.H_n, GW.H_some, GW.H_none, GW.getS_s, GW.getS_0, GW.W_optB, GW.W_truB, GW.W_mkT, GW.W_mkLf, GW.W_mkLt, GW.W_add, GW.W_sub, GW.W_mul, GW.W_div, GW.W_mod, GW.W_addL, GW.W_addT, GW.W_lenT, GW.W_lenL, GW.W_lenC, GW.W_abs, GW.W_intB, GW.W_intI, GW.W_tupleL, GW.W_tupleT, GW.W_listL, GW.W_listT, GW.W_listRL, GW.W_listRT, GW.W_neg', GW.W_max2, GW.W_min2, GW.W_eqI, GW.W_neI, GW.W_ltI, GW.W_leI, GW.W_gtI, GW.W_geI, GW.W_idxT0, GW.W_idxT1, GW.W_idxT2, GW.items_t, GW.items_l, GW.W_zipTT, GW.W_zipLL, GW.ex_some, GW.isi_t_int, GW.isi_t_bool, GW.isi_t_str, GW.isi_t_tup, GW.isi_t_lst, GW.isi_t_lt, GW.isi_l_int, GW.isi_l_bool, GW.isi_l_str, GW.isi_l_tup, GW.isi_l_lst, GW.isi_l_lt, GW.isi_i_int, GW.isi_i_bool, GW.isi_i_str, GW.isi_i_tup, GW.isi_i_lst, GW.isi_i_lt, GW.isi_b_int, GW.isi_b_bool, GW.isi_b_str, GW.isi_b_tup, GW.isi_b_lst, GW.isi_b_lt, GW.isi_s_int, GW.isi_s_bool, GW.isi_s_str, GW.isi_s_tup, GW.isi_s_lst, GW.isi_s_lt, GW.isi_n_int, GW.isi_n_bool, GW.isi_n_str, GW.isi_n_tup, GW.isi_n_lst, GW.isi_n_lt, GW.om_call, GW.om_fu, GW.om_nf, GW.om_nc, GW.om_sub, GW.start0, List.set_cons_zero, List.set_cons_succ, List.map_cons, List.map_nil, List.length_cons, List.length_nil, List.replicate, List.cons_append, List.nil_append, Nat.reduceAdd, Nat.reduceSub, Nat.reduceLeDiff, true_and, and_true, Bool.not_true, Bool.not_false, Bool.false_eq_true, if_true, if_false, ite_true, ite_false, decide_true, decide_false, $[$ls],*])
namespace GW
open PySem
end GW
set_option exponentiation.threshold 20000
/-! Core 36: contracts from a depth on; stores that go on; things, as they are told and shown. -/
namespace GW
open PySem
abbrev Ct := (List Val → Store → Res Val) → Prop
/-- from the depth d on what is called at i keeps C -/
def At (P : Pg) (fu d i : Nat) (C : Ct) : Prop := ∀ n, d ≤ n → C (callN P fu n i)
theorem At.mk {P : Pg} {fu d i : Nat} {df : Df} {C : Ct} (h : P.defs[i]? = some df) (hb : ∀ n, d ≤ n → C (fun vs S => runD (om P fu n) df vs S)) : At P fu (d + 1) i C := fun n hn => by
  obtain ⟨m, rfl⟩ : ∃ m, n = m + 1 := ⟨n - 1, by omega⟩
  have e : callN P fu (m + 1) i = fun vs S => runD (om P fu m) df vs S := by funext vs S; exact call_eq h vs S
  rw [e]
  exact hb m (by omega)
theorem At.up {P : Pg} {fu d e i : Nat} {C : Ct} (h : At P fu d i C) (hd : d ≤ e) : At P fu e i C := fun n hn => h n (Nat.le_trans hd hn)
/-! stores -/
/-- what stood stands, but for the purse -/
structure Dr (l : Nat) (S S' : Store) : Prop where
  pu : Purse S' l
  kp : ∀ (m : Nat) o, m ≠ l → S[m]? = some o → S'[m]? = some o
theorem Dr.refl {S : Store} {l : Nat} (h : Purse S l) : Dr l S S := ⟨h, fun _ _ _ e => e⟩
theorem Dr.trans {S S1 S2 : Store} {l : Nat} (x : Dr l S S1) (y : Dr l S1 S2) : Dr l S S2 := ⟨y.pu, fun m o h e => y.kp m o h (x.kp m o h e)⟩
theorem Drawn.dr {S S' : Store} {l : Nat} (h : Drawn S l S') : Dr l S S' := ⟨h.pu, fun m o hm e => by rw [h.at (Ne.symm hm)]; exact e⟩
theorem Purse.app {S : Store} {l : Nat} (h : Purse S l) (T : Store) : Purse (S ++ T) l := by
  have hl := h.lt
  obtain ⟨a, b, c, e, h0, h1⟩ := h
  exact ⟨a, b, c, by rw [List.getElem?_append_left hl]; exact e, h0, h1⟩
theorem at_app {S : Store} {m : Nat} {o : Ob} (h : S[m]? = some o) (T : Store) : (S ++ T)[m]? = some o := by
  rw [List.getElem?_append_left (List.getElem?_eq_some_iff.mp h).1]; exact h
theorem Dr.app {S : Store} {l : Nat} (h : Purse S l) (T : Store) : Dr l S (S ++ T) := ⟨h.app T, fun _ _ _ e => at_app e T⟩
theorem at_new (S : Store) (o : Ob) (T : Store) : (S ++ o :: T)[S.length]? = some o := by
  rw [List.getElem?_append_right (Nat.le_refl _), Nat.sub_self]; rfl
theorem at_ne {S : Store} {l : Nat} (h : Purse S l) (m : Nat) : S.length + m ≠ l := by have := h.lt; omega
theorem Purse.ne {S : Store} {l m : Nat} (h : Purse S l) {o : Ob} (e : S[m]? = some o) (ho : ∀ a b c : Int, o ≠ .lst [.int a, .int b, .int c]) : m ≠ l := fun z => by
  obtain ⟨a, b, c, e', _⟩ := h
  rw [z, e'] at e
  exact ho a b c (Option.some.inj e).symm
/-! contracts -/
def cCell : Ct := fun f => ∀ (S : Store) (ns : List Int) (k : Nat), ∃ c : Int, f [.scr (ns.map Val.int), .int k] S = .ok (.int c) S
def cPurse : Ct := fun f => ∀ (S : Store) (c : Int) (Q : Val → Store → Prop) (X : Xt), (∀ (l : Nat) (T : Store), Purse T l → (∀ (m : Nat) o, S[m]? = some o → m ≠ l ∧ T[m]? = some o) → Q (.ref l) T) → W (f [.int c] S) Q X
def cTake : Ct := fun f => ∀ (S : Store) (l : Nat) (many : Int) (Q : Val → Store → Prop) (X : Xt), Purse S l → 0 < many → many ≤ 2 ^ 60 → (∀ (d : Nat) (T : Store), (d : Int) < many → Dr l S T → Q (.int d) T) → W (f [.ref l, .int many] S) Q X
def cNumber : Ct := fun f => ∀ (S : Store) (l : Nat) (Q : Val → Store → Prop) (X : Xt), Purse S l → (∀ (d : Int) (T : Store), d.natAbs < 2 ^ 100 → Dr l S T → Q (.int d) T) → W (f [.ref l] S) Q X
def cGcd (fu : Nat) : Ct := fun f => ∀ (S : Store) (a b : Int), b.natAbs < fu → f [.int a, .int b] S = .ok (.int (Int.gcd a b)) S
def cLow : Ct := fun f => ∀ (S : Store) (t b : Int), b ≠ 0 → b.natAbs < 2 ^ 9000 → f [.int t, .int b] S = .ok (lowV t b) S
section
variable {P : Pg} {fu d : Nat}
theorem cell_at {i : Nat} (h : P.defs[i]? = some ⟨2, 2, bCell⟩) : At P fu (d + 1) i cCell := .mk h fun n _ S ns k => cell_ok _ ns k
theorem purse_at {i : Nat} (h : P.defs[i]? = some ⟨1, 1, bPurse⟩) : At P fu (d + 1) i cPurse := .mk h fun n _ S c Q X hq => by
  obtain ⟨a, b, b0, b1, e0⟩ := purse_ok (om P fu n) (S := S) c
  refine W.of e0 (hq _ _ (purse_is b0 b1) fun m o e => ?_)
  have := (List.getElem?_eq_some_iff.mp e).1
  exact ⟨by omega, at_app e _⟩
theorem take_at {i : Nat} (h : P.defs[i]? = some ⟨2, 5, bTake⟩) : At P fu (d + 1) i cTake := .mk h fun n _ S l many Q X p h0 h1 hq => by
  obtain ⟨d, S', e, d0, d1, D⟩ := take_ok (om P fu n) p h0 h1
  obtain ⟨k, rfl⟩ : ∃ k : Nat, d = k := ⟨d.toNat, by omega⟩
  exact W.of e (hq k S' d1 D.dr)
theorem number_at {i tk : Nat} (h : P.defs[i]? = some ⟨1, 5, bNumber tk⟩) (ht : P.defs[tk]? = some ⟨2, 5, bTake⟩) (hd : 1 ≤ d) : At P fu (d + 1) i cNumber := .mk h fun n hn S l Q X p hq => by
  obtain ⟨m, rfl⟩ : ∃ m, n = m + 1 := ⟨n - 1, by omega⟩
  obtain ⟨x, S', e, hx, D⟩ := num_ok (O := om P fu (m + 1)) (takeOk ht) p
  exact W.of e (hq x S' hx D.dr)
theorem part_at {i : Nat} (h : P.defs[i]? = some ⟨2, 2, bPart⟩) : At P fu (d + 1) i (cGcd fu) := .mk h fun n _ S a b hb => part_ok hb
theorem common_at {i : Nat} (h : P.defs[i]? = some ⟨2, 2, bCommon⟩) : At P fu (d + 1) i (cGcd fu) := .mk h fun n _ S a b hb => common_ok hb
theorem low_at {i c : Nat} (h : P.defs[i]? = some ⟨2, 3, bLow c⟩) (hf : 2 ^ 9000 ≤ fu) (hc : At P fu d c (cGcd fu)) : At P fu (d + 1) i cLow := .mk h fun n hn S t b h0 hb => low_ok h0 hb (hc n hn S t b (by omega))
end
/-! things: what may be handed to any function that looks at it -/
mutual
def Okv (S : Store) : Val → Prop
  | .non => True
  | .bl _ => True
  | .int i => i.natAbs < 2 ^ 9000
  | .str z => z.length ≤ 1000
  | .tup xs => Okvs S xs
  | .lst xs => Okvs S xs
  | .ref m => ∃ o, S[m]? = some o
  | _ => False
def Okvs (S : Store) : List Val → Prop
  | [] => True
  | x :: xs => Okv S x ∧ Okvs S xs
end
theorem okvs_iff {S : Store} : ∀ {xs : List Val}, Okvs S xs ↔ ∀ x ∈ xs, Okv S x
  | [] => by simp [Okvs]
  | x :: xs => by simp [Okvs, okvs_iff (xs := xs)]
theorem Okv.ty {S : Store} {v : Val} (h : Okv S v) : (tyN S v).isSome = true := by
  cases v with
  | ref m =>
    obtain ⟨o, e⟩ := h
    unfold tyN
    dsimp only
    rw [e]
    cases o <;> rfl
  | scr xs => exact h.elim
  | fn f => exact h.elim
  | exc c fs => exact h.elim
  | _ => rfl
mutual
theorem Okv.mono {S T : Store} (hs : ∀ (m : Nat) o, S[m]? = some o → ∃ o', T[m]? = some o') : ∀ {v : Val}, Okv S v → Okv T v
  | .non, h => h
  | .bl _, h => h
  | .int _, h => h
  | .str _, h => h
  | .tup xs, h => Okvs.mono hs (xs := xs) h
  | .lst xs, h => Okvs.mono hs (xs := xs) h
  | .ref m, h => let ⟨o, e⟩ := h; hs m o e
  | .scr _, h => h
  | .fn _, h => h
  | .exc _ _, h => h
theorem Okvs.mono {S T : Store} (hs : ∀ (m : Nat) o, S[m]? = some o → ∃ o', T[m]? = some o') : ∀ {xs : List Val}, Okvs S xs → Okvs T xs
  | [], _ => trivial
  | x :: xs, h => ⟨Okv.mono hs h.1, Okvs.mono hs h.2⟩
end
theorem Okv.dr {S T : Store} {l : Nat} {v : Val} (h : Okv S v) (p : Dr l S T) : Okv T v := h.mono fun m o e => by
  by_cases hm : m = l
  · subst hm
    obtain ⟨a, b, c, e', _⟩ := p.pu
    exact ⟨_, e'⟩
  · exact ⟨o, p.kp m o hm e⟩
theorem Okv.app {S : Store} {v : Val} (h : Okv S v) (T : Store) : Okv (S ++ T) v := h.mono fun m o e => ⟨o, at_app e T⟩
/-! what is shown -/
/-- a thing is shown in w pieces at most -/
def Sh (S : Store) (k w : Nat) (v : Val) : Prop := ∃ d, toD S k v = some d ∧ d.showable = true ∧ d.leavesShort 1921 = true ∧ d.bulk ≤ w ∧ d.depth ≤ k
def Shs (S : Store) (k w : Nat) (xs : List Val) : Prop := ∃ ds, allD (toD S k) xs = some ds ∧ PyData.showableAll ds = true ∧ PyData.leavesShortAll 1921 ds = true ∧ PyData.bulkAll ds ≤ w ∧ PyData.depthAll ds ≤ k
theorem Sh.le {S : Store} {k w w' : Nat} {v : Val} (h : Sh S k w v) (hw : w ≤ w') : Sh S k w' v := let ⟨d, a, b, c, e, f⟩ := h; ⟨d, a, b, c, by omega, f⟩
theorem sh_int {S : Store} {k : Nat} {i : Int} (h : i.natAbs < 2 ^ 1900) : Sh S (k + 1) 0 (.int i) := by
  have hl : i.natAbs.log2 < 1920 := by
    by_cases z : i.natAbs = 0
    · rw [z]; decide
    · exact Nat.lt_trans ((Nat.log2_lt z).mpr h) (by decide)
  refine ⟨.int i, rfl, by unfold PyData.showable; exact decide_eq_true hl, ?_, Nat.le_refl _, by simp [PyData.depth]⟩
  unfold PyData.leavesShort
  refine decide_eq_true ?_
  have := PyProof.Rows.int_text_len_1921 hl
  unfold PyData.shown
  exact this
theorem sh_bl {S : Store} {k : Nat} (b : Bool) : Sh S (k + 1) 0 (.bl b) := ⟨.bool b, rfl, rfl, rfl, Nat.le_refl _, by simp [PyData.depth]⟩
theorem sh_non {S : Store} {k : Nat} : Sh S (k + 1) 0 .non := ⟨.none, rfl, rfl, rfl, Nat.le_refl _, by simp [PyData.depth]⟩
theorem shs_nil {S : Store} {k : Nat} : Shs S k 0 [] := ⟨[], rfl, rfl, rfl, by simp [PyData.bulkAll], by simp [PyData.depthAll]⟩
theorem shs_cons {S : Store} {k w w' : Nat} {x : Val} {xs : List Val} (h : Sh S k w x) (h' : Shs S k w' xs) : Shs S k (w + 1 + w') (x :: xs) := by
  obtain ⟨d, a1, a2, a3, a4, a5⟩ := h
  obtain ⟨ds, b1, b2, b3, b4, b5⟩ := h'
  refine ⟨d :: ds, ?_, ?_, ?_, ?_, ?_⟩
  · unfold allD; rw [a1, b1]
  · simp only [PyData.showableAll, a2, b2, Bool.and_true]
  · simp only [PyData.leavesShortAll, a3, b3, Bool.and_true]
  · simp only [PyData.bulkAll]; omega
  · simp only [PyData.depthAll]; omega
theorem shs_all {S : Store} {k w : Nat} : ∀ {xs : List Val}, (∀ x ∈ xs, Sh S k w x) → Shs S k (xs.length * (w + 1)) xs
  | [], _ => by simpa using shs_nil
  | x :: xs, h => by
    have := shs_cons (h x (List.mem_cons_self ..)) (shs_all (xs := xs) fun y hy => h y (List.mem_cons_of_mem _ hy))
    rw [List.length_cons, Nat.add_mul, Nat.one_mul, Nat.add_comm]
    exact this
theorem sh_tup {S : Store} {k w : Nat} {xs : List Val} (h : Shs S k w xs) : Sh S (k + 1) w (.tup xs) := by
  obtain ⟨ds, b1, b2, b3, b4, b5⟩ := h
  refine ⟨.tuple ds, ?_, ?_, ?_, ?_, ?_⟩
  · show (allD (toD S k) xs).map PyData.tuple = _
    rw [b1]; rfl
  · simpa only [PyData.showable] using b2
  · simpa only [PyData.leavesShort] using b3
  · simpa only [PyData.bulk] using b4
  · simp only [PyData.depth]; omega
theorem sh_lst {S : Store} {k w : Nat} {xs : List Val} (h : Shs S k w xs) : Sh S (k + 1) w (.lst xs) := by
  obtain ⟨ds, b1, b2, b3, b4, b5⟩ := h
  refine ⟨.list ds, ?_, ?_, ?_, ?_, ?_⟩
  · show (allD (toD S k) xs).map PyData.list = _
    rw [b1]; rfl
  · simpa only [PyData.showable] using b2
  · simpa only [PyData.leavesShort] using b3
  · simpa only [PyData.bulk] using b4
  · simp only [PyData.depth]; omega
theorem sh_ref {S : Store} {k w m : Nat} {xs : List Val} (e : S[m]? = some (.lst xs)) (h : Shs S k w xs) : Sh S (k + 1) w (.ref m) := by
  obtain ⟨d, a, b⟩ := sh_lst h
  refine ⟨d, ?_, b⟩
  rw [← a]
  unfold toD
  dsimp only
  rw [e]
theorem sh_dct {S : Store} {k m : Nat} (e : S[m]? = some (.dct [] [])) : Sh S (k + 1) 0 (.ref m) := by
  refine ⟨.dict [], ?_, by simp [PyData.showable, PyData.showableKv], by simp [PyData.leavesShort, PyData.leavesShortKv], by simp [PyData.bulk, PyData.bulkKv], by simp [PyData.depth, PyData.depthKv]⟩
  unfold toD
  dsimp only
  rw [e]
  rfl
theorem repr_of {S : Store} {v : Val} {w : Nat} (h : Sh S 12 w v) (hw : w ≤ 8000) : ∃ z, bltV .repr [v] S = .ok (.str z) S := by
  obtain ⟨d, a1, a2, a3, a4, a5⟩ := h
  refine ⟨d.shown, ?_⟩
  show reprV v S = _
  unfold reprV
  rw [a1]
  dsimp only
  have := PyData.shown_le_bulk 1921 (by decide) d a3
  have e : sizeLine = 16777216 := by decide
  exact if_pos ⟨.inl a2, by omega, by omega⟩
/-- shown alike when it is the same -/
theorem str_eq (z : Str) (S : Store) : cmpE .eq (.str z) (.str z) S = some true := by
  show eqV S (.str z) (.str z) = _
  simp [eqV, scalE]
theorem str_ne (z : Str) (S : Store) : cmpE .ne (.str z) (.str z) S = some false := by
  show (eqV S (.str z) (.str z)).map not = _
  simp [eqV, scalE]
end GW
set_option exponentiation.threshold 20000
/-! Core 37: ratios. -/
namespace GW
open PySem
/-- is a ratio -/
def isRat : Val → Bool
  | .tup [.int a, .int b] => decide (0 < b) && decide (Int.gcd a b = 1)
  | _ => false
def cNum : Ct := fun f => ∀ (S : Store) (v : Val), Okv S v → f [v] S = .ok (.bl (numb v)) S
def cIsRat : Ct := fun f => ∀ (S : Store) (v : Val), Okv S v → f [v] S = .ok (.bl (isRat v)) S
def cNeed (t : Val → Bool) (c : Nat) : Ct := fun f => ∀ (S : Store) (v : Val), Okv S v → f [v] S = if t v = true then .ok .non S else .exc c [v] S
/-- an answer that is the only one -/
theorem W.eq {r : Res Val} {v : Val} {S : Store} (h : W r (fun a T => a = v ∧ T = S) nX) : r = .ok v S := by
  obtain ⟨a, T, e, rfl, rfl⟩ := h.get
  exact e
section
variable {P : Pg} {fu d : Nat}
theorem isnum_at {i : Nat} (h : P.defs[i]? = some ⟨1, 1, bIsNum⟩) : At P fu (d + 1) i cNum := .mk h fun n _ S v hv => isnum_ok hv.ty
def bIsRat (nu pa : Nat) : Cs := (.cons (.ife (.or (.not (.isi (.var 0) ["tuple"])) (.or (.cmp .ne (.blt .len (.cons (.var 0) .nil)) (.cst (.int 2))) (.or (.not (.call nu (.cons (.idx (.var 0) (.cst (.int 0))) .nil))) (.not (.call nu (.cons (.idx (.var 0) (.cst (.int 1))) .nil)))))) (.cons (.ret (.cst (.bl false)))
    .nil) .nil)
  (.cons (.ret (.and (.cmp .gt (.idx (.var 0) (.cst (.int 1))) (.cst (.int 0))) (.cmp .eq (.call pa (.cons (.idx (.var 0) (.cst (.int 0))) (.cons (.idx (.var 0) (.cst (.int 1))) .nil))) (.cst (.int 1)))))
  .nil))
theorem isi_tuple {S : Store} {v : Val} (h : Okv S v) : (∃ xs, v = .tup xs) ∨ isiE S v ["tuple"] = some false ∧ ∀ xs, v ≠ .tup xs := by
  cases v with
  | tup xs => exact .inl ⟨xs, rfl⟩
  | ref m =>
    obtain ⟨o, e⟩ := h
    refine .inr ⟨?_, fun _ h => by cases h⟩
    unfold isiE tyN
    dsimp only
    rw [e]
    cases o <;> rfl
  | scr xs => exact h.elim
  | fn f => exact h.elim
  | exc c fs => exact h.elim
  | _ => exact .inr ⟨rfl, fun _ h => by cases h⟩
theorem numb_int {v : Val} (h : numb v = true) : ∃ i, v = .int i := by
  cases v <;> first | exact ⟨_, rfl⟩ | cases h
theorem israt_at {i nu pa : Nat} (h : P.defs[i]? = some ⟨1, 1, bIsRat nu pa⟩) (hn : At P fu d nu cNum) (hp : At P fu d pa (cGcd fu)) (hf : 2 ^ 9000 ≤ fu) : At P fu (d + 1) i cIsRat := .mk h fun n hd S v hv => by
  have hn := hn n hd
  have hp := hp n hd
  refine W.eq ?_
  rw [W_run rfl]
  rcases isi_tuple hv with ⟨xs, rfl⟩ | ⟨e, hne⟩
  · match xs, hv with
    | [], _ => simp! [bIsRat]; simp [isRat]
    | [a], _ => simp! [bIsRat]; simp [isRat]
    | a :: b :: c :: r, _ => simp! [bIsRat]; simp [isRat]; rw [if_neg (by omega)]; intro h; omega
    | [a, b], hv =>
      obtain ⟨ha, hb, _⟩ := hv
      cases na : numb a with
      | false => simp! [bIsRat, hn S a ha, hn S b hb, na]; cases a <;> simp_all [isRat, numb]
      | true =>
        cases nb : numb b with
        | false => simp! [bIsRat, hn S a ha, hn S b hb, na, nb]; cases b <;> cases a <;> simp_all [isRat, numb]
        | true =>
          obtain ⟨x, rfl⟩ := numb_int na
          obtain ⟨y, rfl⟩ := numb_int nb
          simp! [bIsRat, hn S _ ha, hn S _ hb, na, nb, hp S x y (Nat.lt_of_lt_of_le hb hf)]
          by_cases hy : 0 < y <;> simp [hy, isRat]; omega
  · simp! [bIsRat, e]
    cases v <;> first | rfl | exact absurd rfl (hne _)
def bNeed (c isr : Nat) : Cs := (.cons (.ife (.not (.call isr (.cons (.var 0) .nil))) (.cons (.rai c (.cons (.var 0) .nil))
    .nil) .nil)
  .nil)
theorem need_at {i c isr : Nat} {t : Val → Bool} (h : P.defs[i]? = some ⟨1, 1, bNeed c isr⟩) (hi : At P fu d isr (fun f => ∀ (S : Store) (v : Val), Okv S v → f [v] S = .ok (.bl (t v)) S)) : At P fu (d + 1) i (cNeed t c) := .mk h fun n hd S v hv => by
  have hi := hi n hd S v hv
  cases ht : t v <;> simp [runD, bNeed, start0, hi, ht]
end
end GW
set_option exponentiation.threshold 20000
/-! Core 38: plain data and when it is equal; comprehensions and loops, walked forward. -/
namespace GW
open PySem
structure Dat (α : Type) [DecidableEq α] where
  dep : Nat
  v : α → Val
  d : α → PyData
  td : ∀ S n a, dep < n → toD S n (v a) = some (d a)
  cl : ∀ a, (d a).canLay0 = true
  dp : ∀ a, (d a).depth ≤ dep
  eq : ∀ a b, PyData.eqv (d a) (d b) = decide (a = b)
  sm : ∀ S n a b, dep < n → samE S n (v a) (v b) = decide (a = b)
def intD : Dat Int where
  dep := 0
  v := .int
  d := .int
  td := fun S n a h => by cases n with
    | zero => omega
    | succ n => rfl
  cl := fun _ => rfl
  dp := fun _ => by simp [PyData.depth]
  eq := fun a b => by simp only [PyData.eqv]; by_cases h : a = b <;> simp [h]
  sm := fun S n a b h => by cases n with
    | zero => omega
    | succ n => rfl
section
variable {α : Type} [DecidableEq α] (D : Dat α)
theorem Dat.tds (S : Store) (n : Nat) (h : D.dep < n) : ∀ xs : List α, allD (toD S n) (xs.map D.v) = some (xs.map D.d)
  | [] => rfl
  | x :: xs => by
    show (match toD S n (D.v x), allD (toD S n) (xs.map D.v) with
      | some d, some ds => some (d :: ds)
      | _, _ => none) = _
    rw [D.td S n x h, Dat.tds S n h xs]
    rfl
theorem Dat.cls : ∀ xs : List α, PyData.canLayAll0 (xs.map D.d) = true
  | [] => rfl
  | x :: xs => by simp only [List.map_cons, PyData.canLayAll0, D.cl, Dat.cls xs, Bool.and_true]
theorem Dat.dps : ∀ xs : List α, PyData.depthAll (xs.map D.d) ≤ D.dep
  | [] => by simp [PyData.depthAll]
  | x :: xs => by
    have := Dat.dps xs
    have := D.dp x
    simp only [List.map_cons, PyData.depthAll]
    omega
theorem Dat.eqs : ∀ xs ys : List α, PyData.eqvAll (xs.map D.d) (ys.map D.d) = decide (xs = ys)
  | [], [] => rfl
  | [], _ :: _ => by simp [PyData.eqvAll]
  | _ :: _, [] => by simp [PyData.eqvAll]
  | x :: xs, y :: ys => by simp [PyData.eqvAll, D.eq, Dat.eqs xs ys]
theorem Dat.sms (S : Store) (n : Nat) (h : D.dep < n) : ∀ xs ys : List α, samL (samE S n) (xs.map D.v) (ys.map D.v) = decide (xs = ys)
  | [], [] => rfl
  | [], _ :: _ => by simp [samL]
  | _ :: _, [] => by simp [samL]
  | x :: xs, y :: ys => by simp [samL, D.sm S n _ _ h, Dat.sms S n h xs ys]
def tupD : Dat (List α) where
  dep := D.dep + 1
  v := fun xs => .tup (xs.map D.v)
  d := fun xs => .tuple (xs.map D.d)
  td := fun S n a h => by cases n with
    | zero => omega
    | succ n =>
      show (allD (toD S n) (a.map D.v)).map PyData.tuple = _
      rw [D.tds S n (by omega)]; rfl
  cl := fun a => by simpa only [PyData.canLay0] using D.cls a
  dp := fun a => by have := D.dps a; simp only [PyData.depth]; omega
  eq := fun a b => by simpa only [PyData.eqv] using D.eqs a b
  sm := fun S n a b h => by cases n with
    | zero => omega
    | succ n => exact D.sms S n (by omega) a b
def lstD : Dat (List α) where
  dep := D.dep + 1
  v := fun xs => .lst (xs.map D.v)
  d := fun xs => .list (xs.map D.d)
  td := fun S n a h => by cases n with
    | zero => omega
    | succ n =>
      show (allD (toD S n) (a.map D.v)).map PyData.list = _
      rw [D.tds S n (by omega)]; rfl
  cl := fun a => by simpa only [PyData.canLay0] using D.cls a
  dp := fun a => by have := D.dps a; simp only [PyData.depth]; omega
  eq := fun a b => by simpa only [PyData.eqv] using D.eqs a b
  sm := fun S n a b h => by cases n with
    | zero => omega
    | succ n => exact D.sms S n (by omega) a b
def pairD {β : Type} [DecidableEq β] (E : Dat β) : Dat (α × β) where
  dep := max D.dep E.dep + 1
  v := fun p => .tup [D.v p.1, E.v p.2]
  d := fun p => .tuple [D.d p.1, E.d p.2]
  td := fun S n a h => by cases n with
    | zero => omega
    | succ n =>
      show (allD (toD S n) [D.v a.1, E.v a.2]).map PyData.tuple = _
      simp only [allD, D.td S n a.1 (by omega), E.td S n a.2 (by omega)]; rfl
  cl := fun a => by simp only [PyData.canLay0, PyData.canLayAll0, D.cl, E.cl, Bool.and_true]
  dp := fun a => by have := D.dp a.1; have := E.dp a.2; simp only [PyData.depth, PyData.depthAll]; omega
  eq := fun a b => by obtain ⟨a1, a2⟩ := a; obtain ⟨b1, b2⟩ := b; simp [PyData.eqv, PyData.eqvAll, D.eq, E.eq]
  sm := fun S n a b h => by cases n with
    | zero => omega
    | succ n =>
      show samL (samE S n) [D.v a.1, E.v a.2] [D.v b.1, E.v b.2] = _
      obtain ⟨a1, a2⟩ := a; obtain ⟨b1, b2⟩ := b; simp [samL, D.sm S n _ _ (show D.dep < n by omega), E.sm S n _ _ (show E.dep < n by omega)]
theorem Dat.shaped (h : D.dep ≤ 11) (a : α) : SeqAt.shaped (D.d a) = true := by
  unfold SeqAt.shaped
  have := D.dp a
  rw [D.cl, Bool.true_and]
  exact decide_eq_true (by omega)
theorem Dat.eqT (h : D.dep ≤ 10) (S : Store) (xs ys : List α) : eqV S (.tup (xs.map D.v)) (.tup (ys.map D.v)) = some (decide (xs = ys)) := by
  have t : topS S (.tup (xs.map D.v)) (.tup (ys.map D.v)) = decide (xs = ys) := D.sms S 11 (by omega) xs ys
  unfold eqV
  dsimp only [scalE]
  rw [t]
  by_cases e : xs = ys
  · simp [e]
  · rw [if_neg (by simp [e])]
    unfold datE
    have d1 := (tupD D).td S 12 xs (show D.dep + 1 < 12 by omega)
    have d2 := (tupD D).td S 12 ys (show D.dep + 1 < 12 by omega)
    change toD S 12 (.tup (xs.map D.v)) = _ at d1
    change toD S 12 (.tup (ys.map D.v)) = _ at d2
    rw [d1, d2]
    dsimp only
    rw [(tupD D).shaped (show D.dep + 1 ≤ 11 by omega), (tupD D).shaped (show D.dep + 1 ≤ 11 by omega)]
    show some (PyData.eqv ((tupD D).d xs) ((tupD D).d ys)) = _
    rw [(tupD D).eq]
theorem Dat.eqL (h : D.dep ≤ 10) (S : Store) (xs ys : List α) : eqV S (.lst (xs.map D.v)) (.lst (ys.map D.v)) = some (decide (xs = ys)) := by
  have t : topS S (.lst (xs.map D.v)) (.lst (ys.map D.v)) = decide (xs = ys) := D.sms S 11 (by omega) xs ys
  unfold eqV
  dsimp only [scalE]
  rw [t]
  by_cases e : xs = ys
  · simp [e]
  · rw [if_neg (by simp [e])]
    unfold datE
    have d1 := (lstD D).td S 12 xs (show D.dep + 1 < 12 by omega)
    have d2 := (lstD D).td S 12 ys (show D.dep + 1 < 12 by omega)
    change toD S 12 (.lst (xs.map D.v)) = _ at d1
    change toD S 12 (.lst (ys.map D.v)) = _ at d2
    rw [d1, d2]
    dsimp only
    rw [(lstD D).shaped (show D.dep + 1 ≤ 11 by omega), (lstD D).shaped (show D.dep + 1 ≤ 11 by omega)]
    show some (PyData.eqv ((lstD D).d xs) ((lstD D).d ys)) = _
    rw [(lstD D).eq]
theorem Dat.eqP {β : Type} [DecidableEq β] (E : Dat β) (h : D.dep ≤ 10) (h' : E.dep ≤ 10) (S : Store) (a b : α) (x y : β) : eqV S (.tup [D.v a, E.v x]) (.tup [D.v b, E.v y]) = some (decide (a = b) && decide (x = y)) := by
  have t : topS S (.tup [D.v a, E.v x]) (.tup [D.v b, E.v y]) = (decide (a = b) && decide (x = y)) := by
    show samL (samE S 11) [D.v a, E.v x] [D.v b, E.v y] = _
    simp [samL, D.sm S 11 _ _ (show D.dep < 11 by omega), E.sm S 11 _ _ (show E.dep < 11 by omega)]
  unfold eqV
  dsimp only [scalE]
  rw [t]
  by_cases e : (decide (a = b) && decide (x = y)) = true
  · rw [if_pos e, e]
  · rw [if_neg e]
    unfold datE
    have d1 := (pairD D E).td S 12 (a, x) (show max D.dep E.dep + 1 < 12 by omega)
    have d2 := (pairD D E).td S 12 (b, y) (show max D.dep E.dep + 1 < 12 by omega)
    change toD S 12 (.tup [D.v a, E.v x]) = _ at d1
    change toD S 12 (.tup [D.v b, E.v y]) = _ at d2
    rw [d1, d2]
    dsimp only
    rw [(pairD D E).shaped (show max D.dep E.dep + 1 ≤ 11 by omega), (pairD D E).shaped (show max D.dep E.dep + 1 ≤ 11 by omega)]
    show some (PyData.eqv ((pairD D E).d (a, x)) ((pairD D E).d (b, y))) = _
    rw [(pairD D E).eq]
    simp
end
/-! comprehensions, loops -/
section
variable {cs : List Val} {lists : List (List Val)} {i : Nat} {test : Enm → Store → Res Bool} {elt : Enm → Store → Res Val} {en : Enm} {S : Store} {Q : List Val → Store → Prop} {X : Xt}
theorem lcA_aux {α : Type} (g f : α → Val) (hl : live S cs lists) : ∀ (xs : List α) (acc : List Val), acc.length + xs.length < 1000 → (∀ x ∈ xs, W (test (en.set i (some (g x))) S) (fun b T => b = true ∧ T = S) nX) → (∀ x ∈ xs, W (elt (en.set i (some (g x))) S) (fun y T => y = f x ∧ T = S) nX) → lcF cs lists (.one i) test elt en (xs.map g) acc S = .ok (acc ++ xs.map f) S
  | [], acc, _, _, _ => by unfold lcF; simp [if_pos hl]
  | x :: xs, acc, hn, ht, he => by
    obtain ⟨b, T, e1, hb, hT⟩ := (ht x (List.mem_cons_self ..)).get
    obtain ⟨y, T', e2, hy, hT'⟩ := (he x (List.mem_cons_self ..)).get
    rw [hb, hT] at e1
    rw [hy, hT'] at e2
    have ih := lcA_aux g f hl xs (acc ++ [f x]) (by simp at hn ⊢; omega) (fun u hu => ht u (List.mem_cons_of_mem _ hu)) (fun u hu => he u (List.mem_cons_of_mem _ hu))
    rw [List.map_cons]
    unfold lcF
    rw [if_pos hl]
    dsimp only [putT]
    rw [e1]
    simp only [noX_ok, Res.bind_ok, if_true, e2]
    rw [if_pos (Nat.lt_of_lt_of_le (show acc.length < 1000 by simp at hn; omega) (by decide)), ih]
    simp
/-- a comprehension that takes all, nothing is laid -/
theorem W_lcA {α : Type} (xs : List α) (g f : α → Val) (hl : live S cs lists) (hn : xs.length < 1000) (ht : ∀ x ∈ xs, W (test (en.set i (some (g x))) S) (fun b T => b = true ∧ T = S) nX) (he : ∀ x ∈ xs, W (elt (en.set i (some (g x))) S) (fun y T => y = f x ∧ T = S) nX) (h : Q (xs.map f) S) : W (lcF cs lists (.one i) test elt en (xs.map g) [] S) Q X :=
  W.of (lcA_aux g f hl xs [] (by simpa using hn) ht he) (by simpa using h)
/-- with an invariant: what came before, the store -/
theorem lcI_aux {its0 : List Val} (I : Nat → List Val → Store → Prop) (hl : ∀ k acc S, I k acc S → live S cs lists) : ∀ (its : List Val) (k : Nat) (acc : List Val) (S : Store), acc.length + its.length < 1000 → (∀ j v acc S, its[j]? = some v → I (k + j) acc S → W (test (en.set i (some v)) S) (fun b T => (b = true → W (elt (en.set i (some v)) T) (fun y T' => I (k + j + 1) (acc ++ [y]) T') nX) ∧ (b = false → I (k + j + 1) acc T)) nX) → I k acc S → ∃ acc' T, lcF cs lists (.one i) test elt en its acc S = .ok acc' T ∧ I (k + its.length) acc' T ∧ acc'.length ≤ acc.length + its.length
  | [], k, acc, S, _, _, h => ⟨acc, S, by unfold lcF; rw [if_pos (hl _ _ _ h)], h, by simp⟩
  | v :: r, k, acc, S, hn, hs, h => by
    obtain ⟨b, T, e1, h1, h2⟩ := (hs 0 v acc S rfl h).get
    have up : ∀ j, k + 1 + j = k + (j + 1) := fun j => by omega
    cases b with
    | true =>
      obtain ⟨y, T', e2, h3⟩ := (h1 rfl).get
      obtain ⟨acc', T2, e3, h4, h5⟩ := lcI_aux (its0 := its0) I hl r (k + 1) (acc ++ [y]) T' (by simp at hn ⊢; omega) (fun j u acc S e p => by rw [up] at p ⊢; exact hs (j + 1) u acc S e p) h3
      refine ⟨acc', T2, ?_, by rw [List.length_cons, ← up]; exact h4, by simp at h5 ⊢; omega⟩
      unfold lcF
      rw [if_pos (hl _ _ _ h)]
      dsimp only [putT]
      rw [e1]
      simp only [noX_ok, Res.bind_ok, if_true, e2]
      rw [if_pos (Nat.lt_of_lt_of_le (show acc.length < 1000 by simp at hn; omega) (by decide))]
      exact e3
    | false =>
      obtain ⟨acc', T2, e3, h4, h5⟩ := lcI_aux (its0 := its0) I hl r (k + 1) acc T (by simp at hn ⊢; omega) (fun j u acc S e p => by rw [up] at p ⊢; exact hs (j + 1) u acc S e p) (h2 rfl)
      refine ⟨acc', T2, ?_, by rw [List.length_cons, ← up]; exact h4, by simp at h5 ⊢; omega⟩
      unfold lcF
      rw [if_pos (hl _ _ _ h)]
      dsimp only [putT]
      rw [e1]
      simp only [noX_ok, Res.bind_ok, Bool.false_eq_true, if_false]
      exact e3
theorem W_lcI (its : List Val) (I : Nat → List Val → Store → Prop) (hn : its.length < 1000) (h0 : I 0 [] S) (hl : ∀ k acc S, I k acc S → live S cs lists) (hs : ∀ k v acc S, its[k]? = some v → I k acc S → W (test (en.set i (some v)) S) (fun b T => (b = true → W (elt (en.set i (some v)) T) (fun y T' => I (k + 1) (acc ++ [y]) T') nX) ∧ (b = false → I (k + 1) acc T)) nX) (h : ∀ acc T, I its.length acc T → acc.length ≤ its.length → Q acc T) : W (lcF cs lists (.one i) test elt en its [] S) Q X := by
  obtain ⟨acc, T, e, h1, h2⟩ := lcI_aux (its0 := its) I hl its 0 [] S (by simpa using hn) (fun j v acc S e p => by rw [Nat.zero_add] at p ⊢; exact hs j v acc S e p) h0
  exact W.of e (h acc T (by simpa using h1) (by simpa using h2))
end
section
variable {cs : List Val} {lists : List (List Val)} {t : Tg} {b : Enm → Store → Fl} {N : Enm → Store → Prop} {R : Val → Store → Prop} {Y : Nat → List Val → Enm → Store → Prop}
theorem for_aux (I : Nat → Enm → Store → Prop) (hl : ∀ k en S, I k en S → live S cs lists) : ∀ (its : List Val) (k : Nat), (∀ j v en S, its[j]? = some v → I (k + j) en S → ∃ en1, putT t v en = some en1 ∧ WF (b en1 S) (fun en' S' => I (k + j + 1) en' S') R Y) → ∀ en S, I k en S → (∀ en' S', I (k + its.length) en' S' → N en' S') → WF (forF cs lists t b its en S) N R Y
  | [], k, _, en, S, h, hN => by
    unfold forF
    rw [if_pos (hl _ _ _ h)]
    exact hN en S h
  | v :: r, k, hs, en, S, h, hN => by
    obtain ⟨en1, e1, h2⟩ := hs 0 v en S rfl h
    have up : ∀ j, k + 1 + j = k + (j + 1) := fun j => by omega
    unfold forF
    rw [if_pos (hl _ _ _ h), e1]
    dsimp only
    rw [WF_then]
    refine h2.mono (fun en2 S2 h3 => ?_) (fun _ _ h => h) (fun _ _ _ _ h => h)
    exact for_aux I hl r (k + 1) (fun j u en S e p => by rw [up] at p ⊢; exact hs (j + 1) u en S e p) en2 S2 h3 (fun en' S' p => hN en' S' (by rw [List.length_cons, ← up]; exact p))
theorem WF_for (I : Nat → Enm → Store → Prop) {its : List Val} {en : Enm} {S : Store} (h0 : I 0 en S) (hl : ∀ k en S, I k en S → live S cs lists) (hs : ∀ k v en S, its[k]? = some v → I k en S → ∃ en1, putT t v en = some en1 ∧ WF (b en1 S) (fun en' S' => I (k + 1) en' S') R Y) (hN : ∀ en S, I its.length en S → N en S) : WF (forF cs lists t b its en S) N R Y :=
  for_aux I hl its 0 (fun j v en S e p => by rw [Nat.zero_add] at p ⊢; exact hs j v en S e p) en S h0 (fun en' S' p => hN en' S' (by simpa using p))
/-- a loop over what is written out, turn by turn -/
theorem WF_for0 {en : Enm} {S : Store} (h : live S cs lists) (hN : N en S) : WF (forF cs lists t b [] en S) N R Y := by rw [for_n h]; exact hN
theorem WF_for1 {i : Nat} {v : Val} {r : List Val} {en : Enm} {S : Store} (h : live S cs lists) (hN : WF (b (en.set i (some v)) S) (fun en S => WF (forF cs lists (.one i) b r en S) N R Y) R Y) : WF (forF cs lists (.one i) b (v :: r) en S) N R Y := by rw [for_1 h, WF_then]; exact hN
theorem WF_for2 {i j : Nat} {v u : Val} {r : List Val} {en : Enm} {S : Store} (h : live S cs lists) (hN : WF (b ((en.set i (some v)).set j (some u)) S) (fun en S => WF (forF cs lists (.tup [i, j]) b r en S) N R Y) R Y) : WF (forF cs lists (.tup [i, j]) b (.tup [v, u] :: r) en S) N R Y := by rw [for_2 h, WF_then]; exact hN
end
end GW
set_option exponentiation.threshold 20000
/-! Core 39: rows. -/
namespace GW
open PySem
/-- the common part of some numbers and one more -/
def gcdL (ns : List Int) (b : Int) : Int := ns.foldl (fun g x => (Int.gcd g x : Int)) b
theorem gcdL_nn : ∀ (ns : List Int) (b : Int), 0 ≤ b → 0 ≤ gcdL ns b
  | [], b, h => h
  | x :: xs, b, _ => gcdL_nn xs _ (Int.natCast_nonneg _)
theorem gcdL_dvd : ∀ (ns : List Int) (b : Int), gcdL ns b ∣ b ∧ ∀ x ∈ ns, gcdL ns b ∣ x
  | [], b => ⟨Int.dvd_refl _, fun x hx => by cases hx⟩
  | y :: ns, b => by
    obtain ⟨h1, h2⟩ := gcdL_dvd ns (Int.gcd b y : Int)
    refine ⟨Int.dvd_trans h1 (Int.gcd_dvd_left b y), fun x hx => ?_⟩
    rcases List.mem_cons.mp hx with rfl | hx
    · exact Int.dvd_trans h1 (Int.gcd_dvd_right b x)
    · exact h2 x hx
theorem dvd_gcdL : ∀ (ns : List Int) (b d : Int), d ∣ b → (∀ x ∈ ns, d ∣ x) → d ∣ gcdL ns b
  | [], b, d, h, _ => h
  | y :: ns, b, d, h, hs => dvd_gcdL ns _ d (Int.dvd_coe_gcd h (hs y (List.mem_cons_self ..))) fun x hx => hs x (List.mem_cons_of_mem _ hx)
theorem gcdL_pos {ns : List Int} {b : Int} (h : 0 < b) : 0 < gcdL ns b := by
  have h1 := gcdL_nn ns b (Int.le_of_lt h)
  have h2 := (gcdL_dvd ns b).1
  rcases Int.lt_or_eq_of_le h1 with h3 | h3
  · exact h3
  · rw [← h3] at h2
    have := Int.zero_dvd.mp h2
    omega
theorem gcdL_le {ns : List Int} {b : Int} (h : 0 < b) : gcdL ns b ≤ b := Int.le_of_dvd h (gcdL_dvd ns b).1
theorem gcdL_mul : ∀ (ns : List Int) (b g : Int), 0 ≤ g → 0 ≤ b → gcdL (ns.map (· * g)) (b * g) = gcdL ns b * g
  | [], b, g, _, _ => rfl
  | y :: ns, b, g, hg, hb => by
    show gcdL (ns.map (· * g)) (Int.gcd (b * g) (y * g) : Int) = gcdL ns (Int.gcd b y : Int) * g
    rw [← gcdL_mul ns _ g hg (Int.natCast_nonneg _), Int.gcd_mul_right]
    congr 1
    rw [Int.natCast_mul]
    congr 1
    omega
def tI (ns : List Int) : Val := .tup (ns.map .int)
def lI (ns : List Int) : Val := .lst (ns.map .int)
def rowV (ns : List Int) (b : Int) : Val := .tup [.tup (ns.map .int), .int b]
def shortV (ns : List Int) (b : Int) : Val := rowV (ns.map fun x => x.fdiv (gcdL ns b)) (b.fdiv (gcdL ns b))
structure IsRow (ns : List Int) (b : Int) : Prop where
  lo : 1 ≤ ns.length
  hi : ns.length ≤ 12
  pos : 0 < b
  low : gcdL ns b = 1
structure Bdd (k : Nat) (ns : List Int) (b : Int) : Prop where
  ns : ∀ x ∈ ns, x.natAbs < 2 ^ k
  b : b.natAbs < 2 ^ k
theorem pow_up {x k m : Nat} (h : x < 2 ^ k) (hm : k ≤ m) : x < 2 ^ m := Nat.lt_of_lt_of_le h (Nat.pow_le_pow_right (by decide) hm)
theorem Bdd.up {k m : Nat} {ns : List Int} {b : Int} (h : Bdd k ns b) (hm : k ≤ m) : Bdd m ns b := ⟨fun x hx => pow_up (h.ns x hx) hm, pow_up h.b hm⟩
theorem short_parts (ns : List Int) {b : Int} (h : 0 < b) : ∃ ms c, shortV ns b = rowV ms c ∧ ms.map (· * gcdL ns b) = ns ∧ c * gcdL ns b = b ∧ 0 < c ∧ gcdL ms c = 1 ∧ ms.length = ns.length ∧ c ≤ b ∧ ∀ k, (∀ x ∈ ns, x.natAbs < 2 ^ k) → ∀ x ∈ ms, x.natAbs < 2 ^ k := by
  have g0 := gcdL_pos (ns := ns) h
  obtain ⟨hb, hn⟩ := gcdL_dvd ns b
  generalize hg : gcdL ns b = g at *
  have e1 : (ns.map fun x => x.fdiv g).map (· * g) = ns := by
    rw [List.map_map]
    conv => rhs; rw [← List.map_id ns]
    refine List.map_congr_left fun x hx => ?_
    show x.fdiv g * g = x
    exact Int.fdiv_mul_cancel (hn x hx)
  have e2 : b.fdiv g * g = b := Int.fdiv_mul_cancel hb
  have c0 : 0 < b.fdiv g := by
    rcases Int.lt_or_le 0 (b.fdiv g) with h1 | h1
    · exact h1
    · have := Int.mul_nonpos_of_nonpos_of_nonneg h1 (Int.le_of_lt g0)
      omega
  refine ⟨_, _, by unfold shortV; rw [hg], e1, e2, c0, ?_, by simp, ?_, ?_⟩
  · have h2 := gcdL_mul (ns.map fun x => x.fdiv g) (b.fdiv g) g (Int.le_of_lt g0) (Int.le_of_lt c0)
    rw [e1, e2, hg] at h2
    have h3 : 1 * g = gcdL (ns.map fun x => x.fdiv g) (b.fdiv g) * g := by rw [Int.one_mul]; exact h2
    exact (Int.eq_of_mul_eq_mul_right (by omega) h3).symm
  · have := Int.mul_le_mul_of_nonneg_left (show 1 ≤ g by omega) (Int.le_of_lt c0)
    omega
  · intro k hk x hx
    obtain ⟨y, hy, rfl⟩ := List.mem_map.mp hx
    refine Nat.lt_of_le_of_lt ?_ (hk y hy)
    obtain ⟨z, rfl⟩ := hn y hy
    rw [Int.mul_comm g z, Int.mul_fdiv_cancel _ (by omega), Int.natAbs_mul]
    exact Nat.le_mul_of_pos_right _ (by omega)
theorem short_row_is {ns : List Int} {b : Int} {k : Nat} (h : 0 < b) (h1 : 1 ≤ ns.length) (h2 : ns.length ≤ 12) (hk : Bdd k ns b) : ∃ ms c, shortV ns b = rowV ms c ∧ IsRow ms c ∧ Bdd k ms c ∧ ms.length = ns.length := by
  obtain ⟨ms, c, e, _, _, c0, g1, l, cb, sz⟩ := short_parts ns h
  exact ⟨ms, c, e, ⟨by omega, by omega, c0, g1⟩, ⟨sz k hk.ns, by have := hk.b; omega⟩, l⟩
/-- a row in its one form is itself -/
theorem short_same {ns : List Int} {b : Int} (h : gcdL ns b = 1) : shortV ns b = rowV ns b := by
  unfold shortV
  rw [h, Int.fdiv_one]
  congr 1
  conv => rhs; rw [← List.map_id ns]
  refine List.map_congr_left fun x hx => Int.fdiv_one x
/-! which things are rows -/
def intOf : Val → Int
  | .int i => i
  | _ => 0
def isNums : Val → Bool
  | .tup xs => decide (1 ≤ xs.length) && decide (xs.length ≤ 12) && xs.all numb
  | _ => false
def isRow : Val → Bool
  | .tup [.tup xs, .int b] => isNums (.tup xs) && decide (0 < b) && decide (gcdL (xs.map intOf) b = 1)
  | _ => false
theorem ints_of {xs : List Val} (h : xs.all numb = true) : xs = (xs.map intOf).map .int := by
  induction xs with
  | nil => rfl
  | cons x xs ih =>
    rw [List.all_cons, Bool.and_eq_true] at h
    obtain ⟨i, rfl⟩ := numb_int h.1
    simp only [List.map_cons]
    rw [← ih h.2]
    rfl
theorem intOf_map (ns : List Int) : (ns.map Val.int).map intOf = ns := by
  rw [List.map_map]
  conv => rhs; rw [← List.map_id ns]
  exact List.map_congr_left fun _ _ => rfl
theorem all_numb (ns : List Int) : (ns.map Val.int).all numb = true := by
  rw [List.all_map]
  exact List.all_eq_true.mpr fun _ _ => rfl
theorem isRow_iff {v : Val} : isRow v = true ↔ ∃ ns b, v = rowV ns b ∧ IsRow ns b := by
  constructor
  · intro h
    unfold isRow at h
    split at h
    · rename_i xs b
      simp only [isNums, Bool.and_eq_true, decide_eq_true_eq] at h
      obtain ⟨⟨⟨⟨h1, h2⟩, h3⟩, h4⟩, h5⟩ := h
      refine ⟨xs.map intOf, b, ?_, ⟨by simpa using h1, by simpa using h2, h4, h5⟩⟩
      unfold rowV
      rw [← ints_of h3]
    · cases h
  · rintro ⟨ns, b, rfl, h⟩
    have h1 := h.lo
    have h2 := h.hi
    have h3 := h.pos
    have h4 := h.low
    simp only [rowV, isRow, isNums, intOf_map, all_numb, List.length_map, Bool.and_eq_true, decide_eq_true_eq]
    exact ⟨⟨⟨⟨h1, h2⟩, trivial⟩, h3⟩, h4⟩
theorem IsRow.is {ns : List Int} {b : Int} (h : IsRow ns b) : isRow (rowV ns b) = true := isRow_iff.mpr ⟨ns, b, rfl, h⟩
theorem okv_row {S : Store} {ns : List Int} {b : Int} (h : Bdd 9000 ns b) : Okv S (rowV ns b) := by
  refine ⟨?_, h.b, trivial⟩
  refine okvs_iff.mpr fun x hx => ?_
  obtain ⟨y, hy, rfl⟩ := List.mem_map.mp hx
  exact h.ns y hy
theorem row_okv {S : Store} {ns : List Int} {b : Int} (h : Okv S (rowV ns b)) : Bdd 9000 ns b := by
  obtain ⟨h1, h2, _⟩ := h
  exact ⟨fun x hx => okvs_iff.mp h1 _ (List.mem_map_of_mem hx), h2⟩
theorem sum_ints (is : List Int) {S : Store} {Q : Val → Store → Prop} {X : Xt} : W (bltV .sum [.lst (is.map .int)] S) Q X = Q (.int is.sum) S := by
  have e : ∀ is : List Int, ints? (is.map Val.int) = some is := fun is => by
    induction is with
    | nil => rfl
    | cons i is ih => show (ints? (is.map Val.int)).map (i :: ·) = _; rw [ih]; rfl
  have : bltV .sum [.lst (is.map .int)] S = .ok (.int is.sum) S := by
    unfold bltV
    dsimp only
    unfold sumV seqL
    dsimp only
    rw [e]
  rw [this]; rfl
theorem all_bls (bs : List Bool) {S : Store} {Q : Val → Store → Prop} {X : Xt} : W (bltV .all [.lst (bs.map .bl)] S) Q X = Q (.bl (bs.all id)) S := by
  have : bltV .all [.lst (bs.map .bl)] S = .ok (.bl (bs.all id)) S := by
    unfold bltV
    dsimp only
    unfold allV seqL
    dsimp only
    rw [blts_all]
  rw [this]; rfl
theorem zip_ints (ns ms : List Int) : (((ns.map Val.int).zip (ms.map Val.int)).map fun p => Val.tup [p.1, p.2]) = (ns.zip ms).map fun p => .tup [.int p.1, .int p.2] := by
  rw [List.zip_map, List.map_map]
  rfl
/-- common_of: 0 numbers 1 bottom 2 by 3 number -/
-- np nn = 2 4
def L_common_of (c_common_part : Nat) : Cs := (.cons (.set 2 (.var 1))
  (.cons (.forr (.one 3) (.val (.var 0)) (.cons (.set 2 (.call c_common_part (.cons (.var 2) (.cons (.var 3) .nil))))
    .nil))
  (.cons (.ret (.var 2))
  .nil)))
/-- short_row: 0 numbers 1 bottom 2 by 3 number -/
-- np nn = 2 4
def L_short_row (c_common_of : Nat) : Cs := (.cons (.set 2 (.call c_common_of (.cons (.var 0) (.cons (.var 1) .nil))))
  (.cons (.ret (.tpd (.cons (.blt .tuple (.cons (.lc false (.one 3) (.val (.var 0)) .nil (.bin .div (.var 3) (.var 2))) .nil)) (.cons (.bin .div (.var 1) (.var 2)) .nil))))
  .nil))
/-- are_numbers: 0 thing 1 one -/
-- np nn = 1 2
def L_are_numbers (c_is_number : Nat) : Cs := (.cons (.ret (.and (.isi (.var 0) ["tuple"]) (.and (.chn .le .le (.cst (.int 1)) (.blt .len (.cons (.var 0) .nil)) (.glo "MOST" (.int 12))) (.blt .all (.cons (.lc false (.one 1) (.val (.var 0)) .nil (.call c_is_number (.cons (.var 1) .nil))) .nil)))))
  .nil)
/-- is_row: 0 thing -/
-- np nn = 1 1
def L_is_row (c_are_numbers c_is_number c_common_of : Nat) : Cs := (.cons (.ife (.or (.not (.isi (.var 0) ["tuple"])) (.or (.cmp .ne (.blt .len (.cons (.var 0) .nil)) (.cst (.int 2))) (.or (.not (.call c_are_numbers (.cons (.idx (.var 0) (.cst (.int 0))) .nil))) (.not (.call c_is_number (.cons (.idx (.var 0) (.cst (.int 1))) .nil)))))) (.cons (.ret (.cst (.bl false)))
    .nil) .nil)
  (.cons (.ret (.and (.cmp .gt (.idx (.var 0) (.cst (.int 1))) (.cst (.int 0))) (.cmp .eq (.call c_common_of (.cons (.idx (.var 0) (.cst (.int 0))) (.cons (.idx (.var 0) (.cst (.int 1))) .nil))) (.cst (.int 1)))))
  .nil))
/-- need_two: 0 one 1 other -/
-- np nn = 2 2
def L_need_two (c_need_row k_3 : Nat) : Cs := (.cons (.exp (.call c_need_row (.cons (.var 0) .nil)))
  (.cons (.exp (.call c_need_row (.cons (.var 1) .nil)))
  (.cons (.ife (.cmp .ne (.blt .len (.cons (.idx (.var 0) (.cst (.int 0))) .nil)) (.blt .len (.cons (.idx (.var 1) (.cst (.int 0))) .nil))) (.cons (.rai k_3 (.cons (.tpd (.cons (.var 0) (.cons (.var 1) .nil))) .nil))
    .nil) .nil)
  .nil)))
/-- plus_rows: 0 one 1 other 2 numbers 3 mine 4 theirs -/
-- np nn = 2 5
def L_plus_rows (c_need_two c_short_row : Nat) : Cs := (.cons (.exp (.call c_need_two (.cons (.var 0) (.cons (.var 1) .nil))))
  (.cons (.set 2 (.lc false (.tup [3, 4]) (.zip (.idx (.var 0) (.cst (.int 0))) (.idx (.var 1) (.cst (.int 0)))) .nil (.bin .add (.bin .mul (.var 3) (.idx (.var 1) (.cst (.int 1)))) (.bin .mul (.var 4) (.idx (.var 0) (.cst (.int 1)))))))
  (.cons (.ret (.call c_short_row (.cons (.var 2) (.cons (.bin .mul (.idx (.var 0) (.cst (.int 1))) (.idx (.var 1) (.cst (.int 1)))) .nil))))
  .nil)))
/-- minus_rows: 0 one 1 other 2 numbers 3 mine 4 theirs -/
-- np nn = 2 5
def L_minus_rows (c_need_two c_short_row : Nat) : Cs := (.cons (.exp (.call c_need_two (.cons (.var 0) (.cons (.var 1) .nil))))
  (.cons (.set 2 (.lc false (.tup [3, 4]) (.zip (.idx (.var 0) (.cst (.int 0))) (.idx (.var 1) (.cst (.int 0)))) .nil (.bin .sub (.bin .mul (.var 3) (.idx (.var 1) (.cst (.int 1)))) (.bin .mul (.var 4) (.idx (.var 0) (.cst (.int 1)))))))
  (.cons (.ret (.call c_short_row (.cons (.var 2) (.cons (.bin .mul (.idx (.var 0) (.cst (.int 1))) (.idx (.var 1) (.cst (.int 1)))) .nil))))
  .nil)))
/-- dot_rows: 0 one 1 other 2 mine 3 theirs -/
-- np nn = 2 4
def L_dot_rows (c_need_two c_lowest : Nat) : Cs := (.cons (.exp (.call c_need_two (.cons (.var 0) (.cons (.var 1) .nil))))
  (.cons (.ret (.call c_lowest (.cons (.blt .sum (.cons (.lc false (.tup [2, 3]) (.zip (.idx (.var 0) (.cst (.int 0))) (.idx (.var 1) (.cst (.int 0)))) .nil (.bin .mul (.var 2) (.var 3))) .nil)) (.cons (.bin .mul (.idx (.var 0) (.cst (.int 1))) (.idx (.var 1) (.cst (.int 1)))) .nil))))
  .nil))
/-- times_row: 0 ratio 1 row 2 number -/
-- np nn = 2 3
def L_times_row (c_need_ratio c_need_row c_short_row : Nat) : Cs := (.cons (.exp (.call c_need_ratio (.cons (.var 0) .nil)))
  (.cons (.exp (.call c_need_row (.cons (.var 1) .nil)))
  (.cons (.ret (.call c_short_row (.cons (.lc false (.one 2) (.val (.idx (.var 1) (.cst (.int 0)))) .nil (.bin .mul (.var 2) (.idx (.var 0) (.cst (.int 0))))) (.cons (.bin .mul (.idx (.var 1) (.cst (.int 1))) (.idx (.var 0) (.cst (.int 1)))) .nil))))
  .nil)))
/-- _law_short: 0 _law_numbers 1 _law_bottom 2 _law_by 3 _law_number_here -/
-- np nn = 2 4
def L_l_short (c_l_common : Nat) : Cs := (.cons (.set 2 (.var 1))
  (.cons (.forr (.one 3) (.val (.var 0)) (.cons (.set 2 (.call c_l_common (.cons (.var 2) (.cons (.var 3) .nil))))
    .nil))
  (.cons (.ret (.tpd (.cons (.blt .tuple (.cons (.lc false (.one 3) (.val (.var 0)) .nil (.bin .div (.var 3) (.var 2))) .nil)) (.cons (.bin .div (.var 1) (.var 2)) .nil))))
  .nil)))
/-! contracts -/
def cTest (t : Val → Bool) : Ct := fun f => ∀ (S : Store) (v : Val), Okv S v → f [v] S = .ok (.bl (t v)) S
/-- some numbers, told as a tuple or as a list -/
def Nums (v : Val) (ns : List Int) : Prop := v = .tup (ns.map .int) ∨ v = .lst (ns.map .int)
theorem Nums.items {v : Val} {ns : List Int} (h : Nums v ns) (S : Store) : items S v = some (ns.map .int) := by rcases h with rfl | rfl <;> rfl
theorem Nums.live {v : Val} {ns : List Int} (h : Nums v ns) (S : Store) (xs : List Val) : live S [v] [xs] := by rcases h with rfl | rfl; exact live_t _ _ _; exact live_l _ _ _
def cCommonOf : Ct := fun f => ∀ (S : Store) (v : Val) (ns : List Int) (b : Int), Nums v ns → (∀ x ∈ ns, x.natAbs < 2 ^ 9000) → f [v, .int b] S = .ok (.int (gcdL ns b)) S
def cShort : Ct := fun f => ∀ (S : Store) (v : Val) (ns : List Int) (b : Int), Nums v ns → ns.length < 900 → 0 < b → Bdd 9000 ns b → f [v, .int b] S = .ok (shortV ns b) S
section
variable {P : Pg} {fu d : Nat}
/-- the loop that gathers the common part -/
theorem gcd_loop {O : Om} {c : Nat} (hf : 2 ^ 9000 ≤ O.fu) (hp : ∀ S a b, b.natAbs < O.fu → O.call c [.int a, .int b] S = .ok (.int (Int.gcd a b)) S) {v : Val} {ns : List Int} (hv : Nums v ns) (hn : ∀ x ∈ ns, x.natAbs < 2 ^ 9000) {S : Store} {a0 a1 a3 : Option Val} {b : Int} {N : Enm → Store → Prop} {R : Val → Store → Prop} {Y : Nat → List Val → Enm → Store → Prop}
    (hN : ∀ o, N [a0, a1, some (.int (gcdL ns b)), o] S) : WF (forF [v] [ns.map .int] (.one 3) (fun en S => exS O (.cons (.set 2 (.call c (.cons (.var 2) (.cons (.var 3) .nil)))) .nil) en S) (ns.map .int) [a0, a1, some (.int b), a3] S) N R Y := by
  refine WF_for (fun k en T => T = S ∧ ∃ o, en = [a0, a1, some (.int (gcdL (ns.take k) b)), o]) ⟨rfl, a3, by simp [gcdL]⟩ (fun k en T h => hv.live _ _) ?_ ?_
  · rintro k x en T hk ⟨rfl, o, rfl⟩
    rw [List.getElem?_map, Option.map_eq_some_iff] at hk
    obtain ⟨y, hy, rfl⟩ := hk
    refine ⟨_, rfl, ?_⟩
    simp! [hp T (gcdL (ns.take k) b) y (Nat.lt_of_lt_of_le (hn y (List.mem_of_getElem? hy)) hf)]
    rw [List.take_add_one, hy]
    simp [gcdL, List.foldl_append]
  · rintro en T ⟨rfl, o, rfl⟩
    rw [List.length_map, List.take_length]
    exact hN o
theorem common_of_at {i c : Nat} (h : P.defs[i]? = some ⟨2, 4, L_common_of c⟩) (hf : 2 ^ 9000 ≤ fu) (hc : At P fu d c (cGcd fu)) : At P fu (d + 1) i cCommonOf := .mk h fun n hd S v ns b hv hn => by
  refine W.eq ?_
  rw [W_run rfl]
  simp! [L_common_of, hv.items, ex_some]
  refine gcd_loop (O := om P fu n) hf (fun S a b hb => hc n hd S a b hb) hv hn fun o => ?_
  simp! [GW.W_ok]
theorem div_short {g b : Int} (hb : 0 < b) (h : b.natAbs < 2 ^ 9000) (hg : 0 < g) (hgb : g ≤ b) (x : Int) : divOk x g = true := divOk_b (by omega) (by omega)
theorem short_row_at {i c : Nat} (h : P.defs[i]? = some ⟨2, 4, L_short_row c⟩) (hc : At P fu d c cCommonOf) : At P fu (d + 1) i cShort := .mk h fun n hd S v ns b hv hl hb hk => by
  refine W.eq ?_
  rw [W_run rfl]
  have dv := div_short hb hk.b (gcdL_pos (ns := ns) hb) (gcdL_le hb)
  simp! [L_short_row, hc n hd S v ns b hv hk.ns, hv.items, ex_some]
  refine W_lcA ns Val.int (fun x => .int (x.fdiv (gcdL ns b))) (hv.live _ _) (by omega) (fun x hx => by simp! [GW.W_ok]) (fun x hx => by simp! [dv]) ?_
  simp! [dv, List.length_map]
  refine ⟨by omega, ?_⟩
  simp [shortV, rowV]
theorem l_short_at {i c : Nat} (h : P.defs[i]? = some ⟨2, 4, L_l_short c⟩) (hf : 2 ^ 9000 ≤ fu) (hc : At P fu d c (cGcd fu)) : At P fu (d + 1) i cShort := .mk h fun n hd S v ns b hv hl hb hk => by
  refine W.eq ?_
  rw [W_run rfl]
  have dv := div_short hb hk.b (gcdL_pos (ns := ns) hb) (gcdL_le hb)
  simp! [L_l_short, hv.items, ex_some]
  refine gcd_loop (O := om P fu n) hf (fun S a b hb => hc n hd S a b hb) hv hk.ns fun o => ?_
  simp! [hv.items, ex_some]
  refine W_lcA ns Val.int (fun x => .int (x.fdiv (gcdL ns b))) (hv.live _ _) (by omega) (fun x hx => by simp! [GW.W_ok]) (fun x hx => by simp! [dv]) ?_
  simp! [dv, List.length_map]
  refine ⟨by omega, ?_⟩
  simp [shortV, rowV]
end
end GW
set_option exponentiation.threshold 20000
/-! Core 40: rows, reckoned and refused. -/
namespace GW
open PySem
section
variable {cs : List Val} {lists : List (List Val)} {t : Tg} {test : Enm → Store → Res Bool} {elt : Enm → Store → Res Val} {en : Enm} {S : Store} {Q : List Val → Store → Prop} {X : Xt}
theorem lcG_aux {α : Type} (g f : α → Val) (hl : live S cs lists) : ∀ (xs : List α) (acc : List Val), acc.length + xs.length < 1000 → (∀ x ∈ xs, ∃ en1, putT t (g x) en = some en1 ∧ W (test en1 S) (fun b T => b = true ∧ T = S) nX ∧ W (elt en1 S) (fun y T => y = f x ∧ T = S) nX) → lcF cs lists t test elt en (xs.map g) acc S = .ok (acc ++ xs.map f) S
  | [], acc, _, _ => by unfold lcF; simp [if_pos hl]
  | x :: xs, acc, hn, he => by
    obtain ⟨en1, e0, h1, h2⟩ := he x (List.mem_cons_self ..)
    obtain ⟨b, T, e1, hb, hT⟩ := h1.get
    obtain ⟨y, T', e2, hy, hT'⟩ := h2.get
    rw [hb, hT] at e1
    rw [hy, hT'] at e2
    have ih := lcG_aux g f hl xs (acc ++ [f x]) (by simp at hn ⊢; omega) (fun u hu => he u (List.mem_cons_of_mem _ hu))
    rw [List.map_cons]
    unfold lcF
    rw [if_pos hl, e0]
    dsimp only
    rw [e1]
    simp only [noX_ok, Res.bind_ok, if_true, e2]
    rw [if_pos (Nat.lt_of_lt_of_le (show acc.length < 1000 by simp at hn; omega) (by decide)), ih]
    simp
/-- a comprehension that takes all, nothing is laid; any target -/
theorem W_lcG {α : Type} (xs : List α) (g f : α → Val) (hl : live S cs lists) (hn : xs.length < 1000) (he : ∀ x ∈ xs, ∃ en1, putT t (g x) en = some en1 ∧ W (test en1 S) (fun b T => b = true ∧ T = S) nX ∧ W (elt en1 S) (fun y T => y = f x ∧ T = S) nX) (h : Q (xs.map f) S) : W (lcF cs lists t test elt en (xs.map g) [] S) Q X :=
  W.of (lcG_aux g f hl xs [] (by simpa using hn) he) (by simpa using h)
end
/-- the same over things -/
theorem W_lcV {cs : List Val} {lists : List (List Val)} {i : Nat} {test : Enm → Store → Res Bool} {elt : Enm → Store → Res Val} {en : Enm} {S : Store} {Q : List Val → Store → Prop} {X : Xt} (xs : List Val) (f : Val → Val) (hl : live S cs lists) (hn : xs.length < 1000) (ht : ∀ x ∈ xs, W (test (en.set i (some x)) S) (fun b T => b = true ∧ T = S) nX) (he : ∀ x ∈ xs, W (elt (en.set i (some x)) S) (fun y T => y = f x ∧ T = S) nX) (h : Q (xs.map f) S) : W (lcF cs lists (.one i) test elt en xs [] S) Q X := by
  have := W_lcA (Q := Q) (X := X) xs id f hl hn ht he h
  rwa [List.map_id] at this
theorem put2 {i j : Nat} {a b : Val} {en : Enm} : putT (.tup [i, j]) (.tup [a, b]) en = some ((en.set i (some a)).set j (some b)) := rfl
/-- the sums over one bottom, place by place -/
def plusI (ns : List Int) (b : Int) (ms : List Int) (c : Int) : List Int := (ns.zip ms).map fun p => p.1 * c + p.2 * b
def minusI (ns : List Int) (b : Int) (ms : List Int) (c : Int) : List Int := (ns.zip ms).map fun p => p.1 * c - p.2 * b
def dotI (ns ms : List Int) : Int := ((ns.zip ms).map fun p => p.1 * p.2).sum
structure cTwo (kr kf : Nat) (val : List Int → Int → List Int → Int → Val) (f : List Val → Store → Res Val) : Prop where
  bad1 : ∀ S u v, Okv S u → isRow u = false → f [u, v] S = .exc kr [u] S
  bad2 : ∀ S u v, Okv S u → Okv S v → isRow u = true → isRow v = false → f [u, v] S = .exc kr [v] S
  fit : ∀ S ns b ms c, IsRow ns b → IsRow ms c → Bdd 9000 ns b → Bdd 9000 ms c → ns.length ≠ ms.length → f [rowV ns b, rowV ms c] S = .exc kf [.tup [rowV ns b, rowV ms c]] S
  ok : ∀ S ns b ms c, IsRow ns b → IsRow ms c → Bdd 4000 ns b → Bdd 4000 ms c → ns.length = ms.length → f [rowV ns b, rowV ms c] S = .ok (val ns b ms c) S
theorem mulOk_p {i j : Int} {n m : Nat} (h : i.natAbs < 2 ^ n) (h' : j.natAbs < 2 ^ m) (hs : n + m ≤ 100000000) : mulOk i j = true := mulOk_b h h' hs
theorem mul_lt {x y : Int} {n m : Nat} (h : x.natAbs < 2 ^ n) (h' : y.natAbs < 2 ^ m) : (x * y).natAbs < 2 ^ (n + m) := by
  rw [Int.natAbs_mul, Nat.pow_add]
  exact Nat.mul_lt_mul'' h h'
theorem add_lt {x y : Int} {n : Nat} (h : x.natAbs < 2 ^ n) (h' : y.natAbs < 2 ^ n) : (x + y).natAbs < 2 ^ (n + 1) := by
  rw [Nat.pow_succ]; omega
theorem sub_lt {x y : Int} {n : Nat} (h : x.natAbs < 2 ^ n) (h' : y.natAbs < 2 ^ n) : (x - y).natAbs < 2 ^ (n + 1) := by
  rw [Nat.pow_succ]; omega
theorem sum_lt {n : Nat} : ∀ (xs : List Int), (∀ x ∈ xs, x.natAbs < 2 ^ n) → xs.sum.natAbs ≤ xs.length * 2 ^ n
  | [], _ => by simp
  | x :: xs, h => by
    have h1 := h x (List.mem_cons_self ..)
    have h2 := sum_lt xs fun y hy => h y (List.mem_cons_of_mem _ hy)
    rw [List.sum_cons, List.length_cons, Nat.add_mul, Nat.one_mul]
    omega
theorem sum_lt12 {n : Nat} {xs : List Int} (h : ∀ x ∈ xs, x.natAbs < 2 ^ n) (hl : xs.length ≤ 12) : xs.sum.natAbs < 2 ^ (n + 4) := by
  have h1 := sum_lt xs h
  have h2 : xs.length * 2 ^ n ≤ 12 * 2 ^ n := Nat.mul_le_mul_right _ hl
  have h3 : 0 < 2 ^ n := Nat.pow_pos (by decide)
  rw [Nat.pow_add]
  omega
theorem mem_zip {ns ms : List Int} {p : Int × Int} (h : p ∈ ns.zip ms) : p.1 ∈ ns ∧ p.2 ∈ ms := ⟨(List.of_mem_zip h).1, (List.of_mem_zip h).2⟩
theorem len_zip {ns ms : List Int} (h : ns.length = ms.length) : (ns.zip ms).length = ns.length := by simp [h]
section
variable {P : Pg} {fu d : Nat}
theorem are_numbers_at {i c : Nat} (h : P.defs[i]? = some ⟨1, 2, L_are_numbers c⟩) (hc : At P fu d c (cTest numb)) : At P fu (d + 1) i (cTest isNums) := .mk h fun n hd S v hv => by
  refine W.eq ?_
  rw [W_run rfl]
  rcases isi_tuple hv with ⟨xs, rfl⟩ | ⟨e, hne⟩
  · simp! [L_are_numbers]
    by_cases h1 : 1 ≤ xs.length
    · by_cases h2 : xs.length ≤ 12
      · have c1 : (1 : Int) ≤ xs.length := by omega
        have c2 : (xs.length : Int) ≤ 12 := by omega
        simp! [c1, c2, ex_some]
        refine W_lcV xs (fun x => .bl (numb x)) (live_t _ _ _) (by omega) (fun x hx => by simp! [GW.W_ok]) (fun x hx => by simp! [hc n hd S x (okvs_iff.mp hv x hx)]) ?_
        have e : xs.map (fun x => Val.bl (numb x)) = (xs.map numb).map .bl := by simp
        rw [e]
        simp! [all_bls, List.length_map]
        refine ⟨by omega, ?_⟩
        simp [isNums, h1, h2, List.all_map]
      · have c1 : (1 : Int) ≤ xs.length := by omega
        have c2 : ¬ (xs.length : Int) ≤ 12 := by omega
        simp! [c1, c2]
        simp [isNums, h2]
    · have c1 : ¬ (1 : Int) ≤ xs.length := by omega
      simp! [c1]
      simp [isNums, h1]
  · simp! [L_are_numbers, e]
    cases v <;> first | rfl | exact absurd rfl (hne _)
theorem isNums_row {xs : List Val} (h : isNums (.tup xs) = true) : ∃ ns : List Int, xs = ns.map .int ∧ 1 ≤ ns.length ∧ ns.length ≤ 12 := by
  simp only [isNums, Bool.and_eq_true, decide_eq_true_eq] at h
  exact ⟨xs.map intOf, ints_of h.2, by simpa using h.1.1, by simpa using h.1.2⟩
theorem is_row_at {i an nu co : Nat} (h : P.defs[i]? = some ⟨1, 1, L_is_row an nu co⟩) (ha : At P fu d an (cTest isNums)) (hn : At P fu d nu (cTest numb)) (hc : At P fu d co cCommonOf) : At P fu (d + 1) i (cTest isRow) := .mk h fun n hd S v hv => by
  refine W.eq ?_
  rw [W_run rfl]
  rcases isi_tuple hv with ⟨xs, rfl⟩ | ⟨e, hne⟩
  · match xs, hv with
    | [], _ => simp! [L_is_row]; simp [isRow]
    | [a], _ => simp! [L_is_row]; simp [isRow]
    | a :: b :: c :: r, _ => simp! [L_is_row]; simp [isRow]; rw [if_neg (by omega)]; intro h; omega
    | [a, b], hv =>
      obtain ⟨ha', hb, _⟩ := hv
      have ea := ha n hd S a ha'
      have eb := hn n hd S b hb
      cases na : isNums a with
      | false =>
        simp! [L_is_row, ea, na]
        cases a <;> cases b <;> simp_all [isRow]
      | true =>
        cases nb : numb b with
        | false =>
          simp! [L_is_row, ea, eb, na, nb]
          cases b <;> cases a <;> simp_all [isRow, numb]
        | true =>
          obtain ⟨y, rfl⟩ := numb_int nb
          have : ∃ xs, a = .tup xs := by cases a <;> first | exact ⟨_, rfl⟩ | cases na
          obtain ⟨xs, rfl⟩ := this
          obtain ⟨ns, rfl, l1, l2⟩ := isNums_row na
          have ec := hc n hd S (.tup (ns.map .int)) ns y (.inl rfl) (fun x hx => okvs_iff.mp ha' _ (List.mem_map_of_mem hx))
          simp! [L_is_row, ea, eb, na, nb, ec]
          by_cases hy : 0 < y <;> simp only [hy, isRow, na, intOf_map] <;> simp
  · simp! [L_is_row, e]
    cases v <;> first | rfl | exact absurd rfl (hne _)
theorem Bdd.ok {k : Nat} {ns : List Int} {b : Int} (h : Bdd k ns b) (hk : k ≤ 9000) (S : Store) : Okv S (rowV ns b) := okv_row (h.up hk)
/-- both are needed first -/
theorem need_two_at {i nr kr kf : Nat} (h : P.defs[i]? = some ⟨2, 2, L_need_two nr kf⟩) (hn : At P fu d nr (cNeed isRow kr)) : At P fu (d + 1) i (fun f =>
    (∀ S u v, Okv S u → isRow u = false → f [u, v] S = .exc kr [u] S) ∧ (∀ S u v, Okv S u → Okv S v → isRow u = true → isRow v = false → f [u, v] S = .exc kr [v] S) ∧
    (∀ S ns b ms c, IsRow ns b → IsRow ms c → Bdd 9000 ns b → Bdd 9000 ms c → f [rowV ns b, rowV ms c] S = if ns.length = ms.length then .ok .non S else .exc kf [.tup [rowV ns b, rowV ms c]] S)) := .mk h fun n hd => by
  have hn := hn n hd
  refine ⟨fun S u v hu ru => ?_, fun S u v hu hv ru rv => ?_, fun S ns b ms c r q k1 k2 => ?_⟩
  · have e := hn S u hu
    rw [ru] at e
    simp at e
    simp [runD, L_need_two, start0, e]
  · have e := hn S u hu
    have e' := hn S v hv
    rw [ru] at e
    rw [rv] at e'
    simp at e e'
    simp [runD, L_need_two, start0, e, e']
  · have e := hn S _ (k1.ok (Nat.le_refl _) S)
    have e' := hn S _ (k2.ok (Nat.le_refl _) S)
    rw [r.is] at e
    rw [q.is] at e'
    have l1 : bltV .len [.tup (ns.map .int)] S = .ok (.int ns.length) S := by show Res.ok (Val.int ((ns.map Val.int).length : Nat)) S = _; rw [List.length_map]
    have l2 : bltV .len [.tup (ms.map .int)] S = .ok (.int ms.length) S := by show Res.ok (Val.int ((ms.map Val.int).length : Nat)) S = _; rw [List.length_map]
    unfold rowV at *
    by_cases hl : ns.length = ms.length
    · have hl' : (ns.length : Int) = ms.length := by omega
      simp [runD, L_need_two, start0, e, e', l1, l2, cmp_ne, hl]
    · have hl' : ¬ (ns.length : Int) = ms.length := by omega
      simp [runD, L_need_two, start0, e, e', l1, l2, cmp_ne, hl, hl']
end
end GW
set_option exponentiation.threshold 20000
/-! Core 41: rows, reckoned. -/
namespace GW
open PySem
def cNeedTwo (kr kf : Nat) : Ct := fun f =>
    (∀ S u v, Okv S u → isRow u = false → f [u, v] S = .exc kr [u] S) ∧ (∀ S u v, Okv S u → Okv S v → isRow u = true → isRow v = false → f [u, v] S = .exc kr [v] S) ∧
    (∀ S ns b ms c, IsRow ns b → IsRow ms c → Bdd 9000 ns b → Bdd 9000 ms c → f [rowV ns b, rowV ms c] S = if ns.length = ms.length then .ok .non S else .exc kf [.tup [rowV ns b, rowV ms c]] S)
def plusV (ns : List Int) (b : Int) (ms : List Int) (c : Int) : Val := shortV (plusI ns b ms c) (b * c)
def minusV (ns : List Int) (b : Int) (ms : List Int) (c : Int) : Val := shortV (minusI ns b ms c) (b * c)
def dotV (ns : List Int) (b : Int) (ms : List Int) (c : Int) : Val := lowV (dotI ns ms) (b * c)
theorem plus_bd {k : Nat} {ns ms : List Int} {b c : Int} (h : Bdd k ns b) (q : Bdd k ms c) : Bdd (k + k + 1) (plusI ns b ms c) (b * c) := ⟨fun x hx => by
  obtain ⟨p, hp, rfl⟩ := List.mem_map.mp hx
  obtain ⟨h1, h2⟩ := mem_zip hp
  exact add_lt (mul_lt (h.ns _ h1) q.b) (mul_lt (q.ns _ h2) h.b), pow_up (mul_lt h.b q.b) (by omega)⟩
theorem minus_bd {k : Nat} {ns ms : List Int} {b c : Int} (h : Bdd k ns b) (q : Bdd k ms c) : Bdd (k + k + 1) (minusI ns b ms c) (b * c) := ⟨fun x hx => by
  obtain ⟨p, hp, rfl⟩ := List.mem_map.mp hx
  obtain ⟨h1, h2⟩ := mem_zip hp
  exact sub_lt (mul_lt (h.ns _ h1) q.b) (mul_lt (q.ns _ h2) h.b), pow_up (mul_lt h.b q.b) (by omega)⟩
theorem dot_bd {k : Nat} {ns ms : List Int} (h : ∀ x ∈ ns, x.natAbs < 2 ^ k) (q : ∀ x ∈ ms, x.natAbs < 2 ^ k) (hl : ns.length ≤ 12) : (dotI ns ms).natAbs < 2 ^ (k + k + 4) := by
  refine sum_lt12 (fun x hx => ?_) (by simp [List.length_zip]; omega)
  obtain ⟨p, hp, rfl⟩ := List.mem_map.mp hx
  obtain ⟨h1, h2⟩ := mem_zip hp
  exact mul_lt (h _ h1) (q _ h2)
theorem plus_len {ns ms : List Int} {b c : Int} (h : ns.length = ms.length) : (plusI ns b ms c).length = ns.length := by simp [plusI, h]
theorem minus_len {ns ms : List Int} {b c : Int} (h : ns.length = ms.length) : (minusI ns b ms c).length = ns.length := by simp [minusI, h]
section
variable {P : Pg} {fu d : Nat}
theorem plus_rows_at {i nt sh kr kf : Nat} (h : P.defs[i]? = some ⟨2, 5, L_plus_rows nt sh⟩) (hn : At P fu d nt (cNeedTwo kr kf)) (hs : At P fu d sh cShort) : At P fu (d + 1) i (cTwo kr kf plusV) := .mk h fun n hd => by
  obtain ⟨n1, n2, n3⟩ := hn n hd
  refine ⟨fun S u v hu ru => ?_, fun S u v hu hv ru rv => ?_, fun S ns b ms c r q k1 k2 hl => ?_, fun S ns b ms c r q k1 k2 hl => ?_⟩
  · simp [runD, L_plus_rows, start0, n1 S u v hu ru]
  · simp [runD, L_plus_rows, start0, n2 S u v hu hv ru rv]
  · have e := n3 S ns b ms c r q k1 k2
    rw [if_neg hl] at e
    simp [runD, L_plus_rows, start0, e]
  · have e := n3 S ns b ms c r q (k1.up (by decide)) (k2.up (by decide))
    rw [if_pos hl] at e
    refine W.eq ?_
    rw [W_run rfl]
    have hb := r.pos
    have hc := q.pos
    have bd := plus_bd k1 k2
    have es := fun S => hs n hd S (.lst ((plusI ns b ms c).map .int)) _ _ (.inr rfl) (by rw [plus_len hl]; have := r.hi; omega) (Int.mul_pos hb hc) (bd.up (by decide))
    simp! [L_plus_rows, e]
    simp! [rowV, zip_ints]
    refine W_lcG (ns.zip ms) _ (fun p => .int (p.1 * c + p.2 * b)) (by first | exact live_nil _ | exact live_ll _ _ _ _ _) (by rw [len_zip hl]; have := r.hi; omega) (fun p hp => ⟨_, put2, by simp! [GW.W_ok], ?_⟩) ?_
    · obtain ⟨h1, h2⟩ := mem_zip hp
      simp! [mulOk_p (k1.ns _ h1) k2.b (by decide), mulOk_p (k2.ns _ h2) k1.b (by decide)]
    · rw [show (ns.zip ms).map (fun p => Val.int (p.1 * c + p.2 * b)) = (plusI ns b ms c).map .int by simp [plusI]]
      simp! [rowV, mulOk_p k1.b k2.b (by decide), es, List.length_map, plus_len hl]
      refine ⟨by have := r.hi; omega, rfl⟩
theorem minus_rows_at {i nt sh kr kf : Nat} (h : P.defs[i]? = some ⟨2, 5, L_minus_rows nt sh⟩) (hn : At P fu d nt (cNeedTwo kr kf)) (hs : At P fu d sh cShort) : At P fu (d + 1) i (cTwo kr kf minusV) := .mk h fun n hd => by
  obtain ⟨n1, n2, n3⟩ := hn n hd
  refine ⟨fun S u v hu ru => ?_, fun S u v hu hv ru rv => ?_, fun S ns b ms c r q k1 k2 hl => ?_, fun S ns b ms c r q k1 k2 hl => ?_⟩
  · simp [runD, L_minus_rows, start0, n1 S u v hu ru]
  · simp [runD, L_minus_rows, start0, n2 S u v hu hv ru rv]
  · have e := n3 S ns b ms c r q k1 k2
    rw [if_neg hl] at e
    simp [runD, L_minus_rows, start0, e]
  · have e := n3 S ns b ms c r q (k1.up (by decide)) (k2.up (by decide))
    rw [if_pos hl] at e
    refine W.eq ?_
    rw [W_run rfl]
    have hb := r.pos
    have hc := q.pos
    have bd := minus_bd k1 k2
    have es := fun S => hs n hd S (.lst ((minusI ns b ms c).map .int)) _ _ (.inr rfl) (by rw [minus_len hl]; have := r.hi; omega) (Int.mul_pos hb hc) (bd.up (by decide))
    simp! [L_minus_rows, e]
    simp! [rowV, zip_ints]
    refine W_lcG (ns.zip ms) _ (fun p => .int (p.1 * c - p.2 * b)) (by first | exact live_nil _ | exact live_ll _ _ _ _ _) (by rw [len_zip hl]; have := r.hi; omega) (fun p hp => ⟨_, put2, by simp! [GW.W_ok], ?_⟩) ?_
    · obtain ⟨h1, h2⟩ := mem_zip hp
      simp! [mulOk_p (k1.ns _ h1) k2.b (by decide), mulOk_p (k2.ns _ h2) k1.b (by decide)]
    · rw [show (ns.zip ms).map (fun p => Val.int (p.1 * c - p.2 * b)) = (minusI ns b ms c).map .int by simp [minusI]]
      simp! [rowV, mulOk_p k1.b k2.b (by decide), es, List.length_map, minus_len hl]
      refine ⟨by have := r.hi; omega, rfl⟩
theorem dot_rows_at {i nt lo kr kf : Nat} (h : P.defs[i]? = some ⟨2, 4, L_dot_rows nt lo⟩) (hn : At P fu d nt (cNeedTwo kr kf)) (hs : At P fu d lo cLow) : At P fu (d + 1) i (cTwo kr kf dotV) := .mk h fun n hd => by
  obtain ⟨n1, n2, n3⟩ := hn n hd
  refine ⟨fun S u v hu ru => ?_, fun S u v hu hv ru rv => ?_, fun S ns b ms c r q k1 k2 hl => ?_, fun S ns b ms c r q k1 k2 hl => ?_⟩
  · simp [runD, L_dot_rows, start0, n1 S u v hu ru]
  · simp [runD, L_dot_rows, start0, n2 S u v hu hv ru rv]
  · have e := n3 S ns b ms c r q k1 k2
    rw [if_neg hl] at e
    simp [runD, L_dot_rows, start0, e]
  · have e := n3 S ns b ms c r q (k1.up (by decide)) (k2.up (by decide))
    rw [if_pos hl] at e
    refine W.eq ?_
    rw [W_run rfl]
    have hb := r.pos
    have hc := q.pos
    have es := fun S => hs n hd S (dotI ns ms) (b * c) (Int.mul_ne_zero (by omega) (by omega)) (pow_up (mul_lt k1.b k2.b) (by decide))
    simp! [L_dot_rows, e]
    simp! [rowV, zip_ints]
    refine W_lcG (ns.zip ms) _ (fun p => .int (p.1 * p.2)) (by first | exact live_nil _ | exact live_ll _ _ _ _ _) (by rw [len_zip hl]; have := r.hi; omega) (fun p hp => ⟨_, put2, by simp! [GW.W_ok], ?_⟩) ?_
    · obtain ⟨h1, h2⟩ := mem_zip hp
      simp! [mulOk_p (k1.ns _ h1) (k2.ns _ h2) (by decide)]
    · rw [show (ns.zip ms).map (fun p => Val.int (p.1 * p.2)) = ((ns.zip ms).map fun p => p.1 * p.2).map .int by simp]
      have es' := es
      unfold dotI at es'
      simp! [rowV, mulOk_p k1.b k2.b (by decide), sum_ints, es', List.length_map]
      refine ⟨by simp [List.length_zip]; have := r.hi; omega, rfl⟩
def timesI (ns : List Int) (x : Int) : List Int := ns.map fun n => n * x
theorem times_bd {k m : Nat} {ns : List Int} {b x y : Int} (h : Bdd k ns b) (hx : x.natAbs < 2 ^ m) (hy : y.natAbs < 2 ^ m) : Bdd (k + m) (timesI ns x) (b * y) := ⟨fun z hz => by
  obtain ⟨p, hp, rfl⟩ := List.mem_map.mp hz
  exact mul_lt (h.ns _ hp) hx, mul_lt h.b hy⟩
structure cTimes (ka kr : Nat) (f : List Val → Store → Res Val) : Prop where
  bad1 : ∀ S u v, Okv S u → isRat u = false → f [u, v] S = .exc ka [u] S
  bad2 : ∀ S u v, Okv S u → Okv S v → isRat u = true → isRow v = false → f [u, v] S = .exc kr [v] S
  ok : ∀ S x y ns b, IsR x y → IsRow ns b → x.natAbs < 2 ^ 4000 → y.natAbs < 2 ^ 4000 → Bdd 4000 ns b → f [.tup [.int x, .int y], rowV ns b] S = .ok (shortV (timesI ns x) (b * y)) S
theorem IsR.is {x y : Int} (h : IsR x y) : isRat (.tup [.int x, .int y]) = true := by simp [isRat, h.pos, h.low]
theorem isRat_iff {v : Val} : isRat v = true ↔ ∃ x y, v = .tup [.int x, .int y] ∧ IsR x y := by
  constructor
  · intro h
    unfold isRat at h
    split at h
    · rename_i a b
      simp only [Bool.and_eq_true, decide_eq_true_eq] at h
      exact ⟨a, b, rfl, h.1, h.2⟩
    · cases h
  · rintro ⟨x, y, rfl, h⟩
    exact h.is
theorem okv_rat {S : Store} {x y : Int} (hx : x.natAbs < 2 ^ 9000) (hy : y.natAbs < 2 ^ 9000) : Okv S (.tup [.int x, .int y]) := ⟨hx, hy, trivial⟩
theorem times_row_at {i na nr sh ka kr : Nat} (h : P.defs[i]? = some ⟨2, 3, L_times_row na nr sh⟩) (ha : At P fu d na (cNeed isRat ka)) (hr : At P fu d nr (cNeed isRow kr)) (hs : At P fu d sh cShort) : At P fu (d + 1) i (cTimes ka kr) := .mk h fun n hd => by
  have ha := ha n hd
  have hr := hr n hd
  refine ⟨fun S u v hu ru => ?_, fun S u v hu hv ru rv => ?_, fun S x y ns b r q hx hy k => ?_⟩
  · have e := ha S u hu
    rw [ru] at e
    simp at e
    simp [runD, L_times_row, start0, e]
  · have e := ha S u hu
    have e' := hr S v hv
    rw [ru] at e
    rw [rv] at e'
    simp at e e'
    simp [runD, L_times_row, start0, e, e']
  · have e := ha S _ (okv_rat (pow_up hx (by decide)) (pow_up hy (by decide)))
    have e' := hr S _ (k.ok (by decide) S)
    rw [r.is] at e
    rw [q.is] at e'
    simp at e e'
    have hb := q.pos
    have hc := r.pos
    refine W.eq ?_
    rw [W_run rfl]
    have es := fun S => hs n hd S (.lst ((timesI ns x).map .int)) _ _ (.inr rfl) (by simp [timesI]; have := q.hi; omega) (Int.mul_pos hb hc) ((times_bd k hx hy).up (by decide))
    simp! [L_times_row, e, e']
    simp! [rowV]
    refine W_lcA ns Val.int (fun z => .int (z * x)) (live_t _ _ _) (by have := q.hi; omega) (fun z hz => by simp! [GW.W_ok]) (fun z hz => by simp! [mulOk_p (k.ns _ hz) hx (by decide)]) ?_
    rw [show ns.map (fun z => Val.int (z * x)) = (timesI ns x).map .int by simp [timesI]]
    simp! [rowV, mulOk_p k.b hy (by decide), es, List.length_map]
    simp [timesI]; have := q.hi; omega
end
end GW
set_option exponentiation.threshold 20000
/-! Core 42: numbers, ratios, rows drawn; things that are odd. -/
namespace GW
open PySem
/-- _law_great: 0 _law_purse_here 1 _law_number_here 2 _law_k -/
-- np nn = 1 3
def L_l_great (c_l_take : Nat) : Cs := (.cons (.set 1 (.bin .add (.cst (.int 1)) (.call c_l_take (.cons (.var 0) (.cons (.cst (.int 3)) .nil)))))
  (.cons (.forr (.one 2) (.rng1 (.cst (.int 13))) (.cons (.set 1 (.bin .add (.bin .mul (.var 1) (.bin .pow (.cst (.int 10)) (.cst (.int 30)))) (.call c_l_take (.cons (.var 0) (.cons (.bin .pow (.cst (.int 10)) (.cst (.int 6))) .nil)))))
    .nil))
  (.cons (.ret (.bin .mul (.bin .add (.bin .mul (.var 1) (.bin .pow (.cst (.int 10)) (.cst (.int 9)))) (.call c_l_take (.cons (.var 0) (.cons (.bin .pow (.cst (.int 10)) (.cst (.int 6))) .nil)))) (.bin .sub (.cst (.int 1)) (.bin .mul (.cst (.int 2)) (.call c_l_take (.cons (.var 0) (.cons (.cst (.int 2)) .nil)))))))
  .nil)))
/-- _law_low: 0 _law_top 1 _law_bottom 2 _law_by -/
-- np nn = 2 3
def L_l_low (c_l_common : Nat) : Cs := (.cons (.set 2 (.call c_l_common (.cons (.var 0) (.cons (.var 1) .nil))))
  (.cons (.ife (.cmp .lt (.var 1) (.cst (.int 0))) (.cons (.set 2 (.bin .sub (.cst (.int 0)) (.var 2)))
    .nil) .nil)
  (.cons (.ret (.tpd (.cons (.bin .div (.var 0) (.var 2)) (.cons (.bin .div (.var 1) (.var 2)) .nil))))
  .nil)))
/-- _law_ratio: 0 _law_purse_here 1 _law_top -/
-- np nn = 1 2
def L_l_ratio (c_l_number c_l_low c_l_take : Nat) : Cs := (.cons (.set 1 (.call c_l_number (.cons (.var 0) .nil)))
  (.cons (.ret (.call c_l_low (.cons (.var 1) (.cons (.bin .add (.cst (.int 1)) (.bin .mod (.blt .abs (.cons (.call c_l_number (.cons (.var 0) .nil)) .nil)) (.idx (.lsd false (.cons (.cst (.int 4)) (.cons (.cst (.int 4)) (.cons (.cst (.int 100)) (.cons (.bin .sub (.bin .pow (.cst (.int 10)) (.cst (.int 30))) (.cst (.int 1))) .nil))))) (.call c_l_take (.cons (.var 0) (.cons (.cst (.int 4)) .nil)))))) .nil))))
  .nil))
/-- _law_row: 0 _law_purse_here 1 _law_many 2 _law_bottom 3 _law_numbers 4 _law_k -/
-- np nn = 2 5
def L_l_row (c_l_number c_l_take c_l_short : Nat) : Cs := (.cons (.set 2 (.bin .add (.cst (.int 1)) (.bin .mod (.blt .abs (.cons (.call c_l_number (.cons (.var 0) .nil)) .nil)) (.idx (.lsd false (.cons (.cst (.int 1)) (.cons (.cst (.int 2)) (.cons (.cst (.int 4)) (.cons (.cst (.int 100)) .nil))))) (.call c_l_take (.cons (.var 0) (.cons (.cst (.int 4)) .nil)))))))
  (.cons (.set 3 (.lc false (.one 4) (.rng1 (.var 1)) .nil (.bin .mul (.call c_l_number (.cons (.var 0) .nil)) (.idx (.lsd false (.cons (.cst (.int 0)) (.cons (.cst (.int 1)) (.cons (.cst (.int 1)) (.cons (.var 2) .nil))))) (.call c_l_take (.cons (.var 0) (.cons (.cst (.int 4)) .nil)))))))
  (.cons (.ret (.call c_l_short (.cons (.var 3) (.cons (.var 2) .nil))))
  .nil)))
/-- _law_is_numbers: 0 _law_thing 1 _law_one -/
-- np nn = 1 2
def L_l_is_numbers (c_l_is_number : Nat) : Cs := (.cons (.ife (.or (.not (.isi (.var 0) ["tuple"])) (.not (.chn .le .le (.cst (.int 1)) (.blt .len (.cons (.var 0) .nil)) (.cst (.int 12))))) (.cons (.ret (.cst (.bl false)))
    .nil) .nil)
  (.cons (.ret (.cmp .eq (.lc false (.one 1) (.val (.var 0)) (.cons (.not (.call c_l_is_number (.cons (.var 1) .nil))) .nil) (.var 1)) (.lsd false .nil)))
  .nil))
/-- _law_is_row: 0 _law_thing -/
-- np nn = 1 1
def L_l_is_row (c_l_is_numbers c_l_is_number c_l_short : Nat) : Cs := (.cons (.ife (.or (.not (.isi (.var 0) ["tuple"])) (.or (.cmp .ne (.blt .len (.cons (.var 0) .nil)) (.cst (.int 2))) (.or (.not (.call c_l_is_numbers (.cons (.idx (.var 0) (.cst (.int 0))) .nil))) (.not (.call c_l_is_number (.cons (.idx (.var 0) (.cst (.int 1))) .nil)))))) (.cons (.ret (.cst (.bl false)))
    .nil) .nil)
  (.cons (.ret (.and (.cmp .gt (.idx (.var 0) (.cst (.int 1))) (.cst (.int 0))) (.cmp .eq (.call c_l_short (.cons (.idx (.var 0) (.cst (.int 0))) (.cons (.idx (.var 0) (.cst (.int 1))) .nil))) (.var 0))))
  .nil))
/-- _law_alike: 0 _law_found 1 _law_due -/
-- np nn = 2 2
def L_l_alike : Cs := (.cons (.ret (.and (.isi (.var 0) ["tuple"]) (.cmp .eq (.blt .repr (.cons (.var 0) .nil)) (.blt .repr (.cons (.var 1) .nil)))))
  .nil)
def cGreat : Ct := fun f => ∀ (S : Store) (l : Nat) (Q : Val → Store → Prop) (X : Xt), Purse S l → (∀ (d : Int) (T : Store), d.natAbs < 2 ^ 1400 → d ≠ 0 → Dr l S T → Q (.int d) T) → W (f [.ref l] S) Q X
def cRatio : Ct := fun f => ∀ (S : Store) (l : Nat) (Q : Val → Store → Prop) (X : Xt), Purse S l → (∀ (x y : Int) (T : Store), IsR x y → x.natAbs < 2 ^ 110 → y.natAbs < 2 ^ 110 → Dr l S T → Q (.tup [.int x, .int y]) T) → W (f [.ref l] S) Q X
def cRow : Ct := fun f => ∀ (S : Store) (l : Nat) (many : Nat) (Q : Val → Store → Prop) (X : Xt), Purse S l → 1 ≤ many → many ≤ 12 → (∀ (ns : List Int) (b : Int) (T : Store), IsRow ns b → ns.length = many → Bdd 110 ns b → Dr l S T → Q (rowV ns b) T) → W (f [.ref l, .int many] S) Q X
theorem pow_w (e : Nat) (h : e ≤ 100) {S : Store} {Q : Val → Store → Prop} {X : Xt} : W (bopV .pow (.int 10) (.int (e : Int)) S) Q X = Q (.int (10 ^ e)) S := by rw [pow_at e h]; rfl
theorem W_pow4 {S : Store} {Q : Val → Store → Prop} {X : Xt} : W (bopV .pow (.int 10) (.int 4) S) Q X = Q (.int 10000) S := by rw [pow_4]; rfl
theorem W_pow6 {S : Store} {Q : Val → Store → Prop} {X : Xt} : W (bopV .pow (.int 10) (.int 6) S) Q X = Q (.int 1000000) S := by rw [pow_6]; rfl
theorem W_pow9 {S : Store} {Q : Val → Store → Prop} {X : Xt} : W (bopV .pow (.int 10) (.int 9) S) Q X = Q (.int 1000000000) S := by rw [pow_9]; rfl
theorem W_pow30 {S : Store} {Q : Val → Store → Prop} {X : Xt} : W (bopV .pow (.int 10) (.int 30) S) Q X = Q (.int 1000000000000000000000000000000) S := by rw [pow_30]; rfl
theorem mulOk_s {x y : Int} (h : y.natAbs < 2 ^ 64) : mulOk x y = true := mulOk_r h
section
variable {P : Pg} {fu d : Nat}
theorem great_at {i tk : Nat} (h : P.defs[i]? = some ⟨1, 3, L_l_great tk⟩) (ht : At P fu d tk cTake) : At P fu (d + 1) i cGreat := .mk h fun n hd S l Q X p hq => by
  have ht := ht n hd
  rw [W_run rfl]
  simp! [L_l_great]
  refine ht S l 3 _ _ p (by decide) (by decide) fun w S1 w1 D1 => ?_
  simp! [show (13 : Int) = ((13 : Nat) : Int) from rfl, W_rng (show 13 < 4611686018427387904 by decide)]
  refine WF_for (fun k en T => ∃ (x : Int) (o : Option Val), en = [some (.ref l), some (.int x), o] ∧ 0 < x ∧ x < 4 * 1000000000000000000000000000000 ^ k ∧ Dr l S1 T) ⟨1 + w, none, rfl, by omega, by simp; omega, .refl D1.pu⟩ (fun _ _ _ _ => live_nil _) ?_ ?_
  · rintro k v en T hk ⟨x, o, rfl, x0, x1, D⟩
    refine ⟨_, rfl, ?_⟩
    have hx : x < 2 ^ 1300 := by
      obtain ⟨_, hj'⟩ := rngL_at hk
      have hp : (1000000000000000000000000000000 : Int) ^ k ≤ 1000000000000000000000000000000 ^ 13 := ipow_le (a := 1000000000000000000000000000000) (by decide) (show k ≤ 13 by omega)
      have : (4 * 1000000000000000000000000000000 ^ 13 : Int) ≤ 2 ^ 1300 := by decide
      omega
    simp! [W_pow30, W_pow6, mulOk_p (i := x) (j := 1000000000000000000000000000000) (n := 1300) (m := 100) (by omega) (by decide) (by decide)]
    refine ht T l 1000000 _ _ D.pu (by decide) (by decide) fun y T2 y1 D2 => ?_
    simp! [GW.W_ok]
    refine ⟨_, _, rfl, by omega, ?_, D.trans D2⟩
    rw [Int.pow_succ]
    omega
  · rintro en T ⟨x, o, rfl, x0, x1, D⟩
    rw [rngL_len] at x1
    have hx : x < 2 ^ 1300 := by
      have : (4 * 1000000000000000000000000000000 ^ 13 : Int) ≤ 2 ^ 1300 := by decide
      omega
    simp! [W_pow9, W_pow6, mulOk_s (x := x) (y := 1000000000) (by decide)]
    refine ht T l 1000000 _ _ D.pu (by decide) (by decide) fun y T2 y1 D2 => ?_
    simp! [GW.W_ok]
    refine ht T2 l 2 _ _ D2.pu (by decide) (by decide) fun t T3 t1 D3 => ?_
    simp! [mulOk_s (x := 2) (y := (t : Int)) (by omega), mulOk_s (x := x * 1000000000 + y) (y := 1 - 2 * (t : Int)) (by omega)]
    have hb : (x * 1000000000 + y).natAbs < 2 ^ 1400 := by
      have : (2 : Int) ^ 1300 * 1000000000 + 1000000 ≤ 2 ^ 1400 := by decide
      omega
    have : t = 0 ∨ t = 1 := by omega
    refine hq _ _ ?_ ?_ (D1.trans (D.trans (D2.trans D3)))
    · rcases this with rfl | rfl <;> omega
    · rcases this with rfl | rfl <;> omega
theorem ratio_at {i nu lw tk : Nat} (h : P.defs[i]? = some ⟨1, 2, L_l_ratio nu lw tk⟩) (hn : At P fu d nu cNumber) (hl : At P fu d lw cLow) (ht : At P fu d tk cTake) : At P fu (d + 1) i cRatio := .mk h fun n hd S l Q X p hq => by
  have ht := ht n hd
  have hn := hn n hd
  rw [W_run rfl]
  simp! [L_l_ratio]
  refine hn S l _ _ p fun t S1 t1 D1 => ?_
  simp! [GW.W_ok]
  refine hn S1 l _ _ D1.pu fun b S2 b1 D2 => ?_
  simp! [W_pow30]
  refine ht S2 l 4 _ _ D2.pu (by decide) (by decide) fun k S3 k1 D3 => ?_
  have hz : ∃ z : Int, 0 < z ∧ z < 2 ^ 109 ∧ idxV (.lst [.int 4, .int 4, .int 100, .int (1000000000000000000000000000000 - 1)]) (.int k) S3 = .ok (.int z) S3 := by
    have : k = 0 ∨ k = 1 ∨ k = 2 ∨ k = 3 := by omega
    rcases this with rfl | rfl | rfl | rfl
    · exact ⟨4, by decide, by decide, rfl⟩
    · exact ⟨4, by decide, by decide, rfl⟩
    · exact ⟨100, by decide, by decide, rfl⟩
    · exact ⟨999999999999999999999999999999, by decide, by decide, rfl⟩
  obtain ⟨z, z0, z1, ez⟩ := hz
  have hm := fmod_nn (b.natAbs : Int) z0
  have hb : 1 + (b.natAbs : Int).fmod z ≠ 0 := by omega
  have hs : (1 + (b.natAbs : Int).fmod z).natAbs < 2 ^ 110 := by omega
  obtain ⟨x, y, exy, _, _, r, hx, hy⟩ := low_parts t hb
  have e4 := hl n hd S3 t _ hb (pow_up hs (by decide))
  rw [exy] at e4
  simp! [ez, show z ≠ 0 by omega, ne_eq, not_false_eq_true, e4]
  have : (2 : Nat) ^ 100 < 2 ^ 110 := by decide
  exact hq x y S3 r (by omega) (by omega) (D1.trans (D2.trans D3))
theorem row_at {i nu tk sh : Nat} (h : P.defs[i]? = some ⟨2, 5, L_l_row nu tk sh⟩) (hn : At P fu d nu cNumber) (ht : At P fu d tk cTake) (hs : At P fu d sh cShort) : At P fu (d + 1) i cRow := .mk h fun n hd S l many Q X p m1 m2 hq => by
  have ht := ht n hd
  have hn := hn n hd
  rw [W_run rfl]
  simp! [L_l_row]
  refine hn S l _ _ p fun t S1 t1 D1 => ?_
  simp! [GW.W_ok]
  refine ht S1 l 4 _ _ D1.pu (by decide) (by decide) fun k S2 k1 D2 => ?_
  have hz : ∃ z : Int, 0 < z ∧ z ≤ 100 ∧ idxV (.lst [.int 1, .int 2, .int 4, .int 100]) (.int k) S2 = .ok (.int z) S2 := by
    have : k = 0 ∨ k = 1 ∨ k = 2 ∨ k = 3 := by omega
    rcases this with rfl | rfl | rfl | rfl
    · exact ⟨1, by decide, by decide, rfl⟩
    · exact ⟨2, by decide, by decide, rfl⟩
    · exact ⟨4, by decide, by decide, rfl⟩
    · exact ⟨100, by decide, by decide, rfl⟩
  obtain ⟨z, z0, z1, ez⟩ := hz
  have hm := fmod_nn (t.natAbs : Int) z0
  simp! [ez, show z ≠ 0 by omega, ne_eq, not_false_eq_true, W_rng (show many < 4611686018427387904 by omega)]
  generalize hb : 1 + (t.natAbs : Int).fmod z = b
  have b0 : 0 < b := by omega
  have b1 : b ≤ 101 := by omega
  refine W_lcI _ (fun k acc T => ∃ ns : List Int, acc = ns.map .int ∧ ns.length = k ∧ (∀ x ∈ ns, x.natAbs < 2 ^ 110) ∧ Dr l S T) (by rw [rngL_len]; omega) ⟨[], rfl, rfl, by simp, D1.trans D2⟩ (fun _ _ _ _ => live_nil _) ?_ ?_
  · rintro j v acc T hj ⟨ns, rfl, ln, hns, D⟩
    simp! [Bool.true_eq_false, false_implies, forall_const, reduceCtorEq]
    refine hn T l _ _ D.pu fun y T2 y1 D3 => ?_
    simp! [GW.W_ok]
    refine ht T2 l 4 _ _ D3.pu (by decide) (by decide) fun k T3 k1 D4 => ?_
    have hz : ∃ z : Int, z.natAbs ≤ 101 ∧ idxV (.lst [.int 0, .int 1, .int 1, .int b]) (.int k) T3 = .ok (.int z) T3 := by
      have : k = 0 ∨ k = 1 ∨ k = 2 ∨ k = 3 := by omega
      rcases this with rfl | rfl | rfl | rfl
      · exact ⟨0, by decide, rfl⟩
      · exact ⟨1, by decide, rfl⟩
      · exact ⟨1, by decide, rfl⟩
      · exact ⟨b, by omega, rfl⟩
    obtain ⟨z, z1, ez⟩ := hz
    simp! [ez, mulOk_s (x := y) (y := z) (by omega)]
    refine ⟨ns ++ [y * z], by simp, by simp [ln], fun x hx => ?_, D.trans (D3.trans D4)⟩
    rcases List.mem_append.mp hx with hx | hx
    · exact hns x hx
    · rw [List.mem_singleton.mp hx]
      exact mul_lt (n := 100) (m := 10) y1 (by omega)
  · rintro acc T ⟨ns, rfl, ln, hns, D⟩ _
    rw [rngL_len] at ln
    have bd : Bdd 110 ns b := ⟨hns, by have : (101 : Nat) < 2 ^ 110 := by decide
                                       omega⟩
    have es := hs n hd T (.lst (ns.map .int)) ns b (.inr rfl) (by omega) b0 (bd.up (by decide))
    obtain ⟨ms, c, e, r, bd', ml⟩ := short_row_is b0 (by omega) (by omega) bd
    rw [e] at es
    simp! [es, List.length_map]
    exact ⟨by omega, hq ms c T r (by omega) bd' D⟩
end
end GW
set_option exponentiation.threshold 20000
/-! Core 43: things that are odd. -/
namespace GW
open PySem
def AllL (f : Val → Prop) : List Val → Prop
  | [] => True
  | x :: xs => f x ∧ AllL f xs
theorem allL_iff {f : Val → Prop} : ∀ {xs : List Val}, AllL f xs ↔ ∀ x ∈ xs, f x
  | [] => by simp [AllL]
  | x :: xs => by simp [AllL, allL_iff (xs := xs)]
mutual
/-- how many pieces are shown -/
def cnt : Val → Nat
  | .tup xs => cnts xs
  | .lst xs => cnts xs
  | .str _ => 8
  | .ref _ => 190
  | _ => 0
def cnts : List Val → Nat
  | [] => 0
  | x :: xs => cnt x + 1 + cnts xs
end
/-- things that are shown: numbers, short texts, in tuples and lists; an empty dict, a short list of such -/
def Lf (S : Store) : Nat → Val → Prop
  | 0, _ => False
  | k + 1, v => match v with
    | .non => True
    | .bl _ => True
    | .int i => i.natAbs < 2 ^ 1900
    | .str z => (z.cps.toList.all fun c => decide (c < 128)) = true ∧ z.cps.size ≤ 8
    | .tup xs => AllL (Lf S k) xs
    | .lst xs => AllL (Lf S k) xs
    | .ref m => S[m]? = some (.dct [] []) ∨ ∃ zs, S[m]? = some (.lst zs) ∧ AllL (Lf S k) zs ∧ cnts zs ≤ 190 ∧ zs.length ≤ 2
    | _ => False
theorem shs_cnt {S : Store} {k : Nat} (h : ∀ v, Lf S k v → Sh S k (cnt v) v) : ∀ xs : List Val, AllL (Lf S k) xs → Shs S k (cnts xs) xs
  | [], _ => shs_nil
  | x :: xs, q => shs_cons (h x q.1) (shs_cnt h xs q.2)
theorem Lf.sh {S : Store} : ∀ {k : Nat} {v : Val}, Lf S k v → Sh S k (cnt v) v
  | 0, _, h => by unfold Lf at h; exact h.elim
  | k + 1, v, h => by
    have ih := fun v => Lf.sh (S := S) (k := k) (v := v)
    cases v with
    | non => exact sh_non
    | bl b => exact sh_bl b
    | int i => exact sh_int h
    | str z =>
      refine ⟨.str z, rfl, rfl, ?_, h.2, by simp [PyData.depth]⟩
      unfold PyData.leavesShort
      exact List.all_eq_true.mpr fun c hc => decide_eq_true (Nat.lt_trans (of_decide_eq_true (List.all_eq_true.mp h.1 c hc)) (by decide))
    | tup xs => exact sh_tup (shs_cnt ih xs h)
    | lst xs => exact sh_lst (shs_cnt ih xs h)
    | scr _ => exact h.elim
    | ref m =>
      rcases h with h | ⟨zs, e, h, hc, _⟩
      · exact (sh_dct h).le (show 0 ≤ 190 by decide)
      · exact (sh_ref e (shs_cnt ih zs h)).le (show cnts zs ≤ 190 from hc)
    | fn _ => exact h.elim
    | exc _ _ => exact h.elim
theorem okvs_of {S : Store} {k : Nat} (h : ∀ v, Lf S k v → Okv S v) : ∀ xs : List Val, AllL (Lf S k) xs → Okvs S xs
  | [], _ => trivial
  | x :: xs, q => ⟨h x q.1, okvs_of h xs q.2⟩
theorem Lf.okv {S : Store} : ∀ {k : Nat} {v : Val}, Lf S k v → Okv S v
  | 0, _, h => by unfold Lf at h; exact h.elim
  | k + 1, v, h => by
    have ih := fun v => Lf.okv (S := S) (k := k) (v := v)
    cases v with
    | non => trivial
    | bl b => trivial
    | int i => exact pow_up h (by decide)
    | str z => exact Nat.le_trans h.2 (by decide)
    | tup xs => exact okvs_of ih xs h
    | lst xs => exact okvs_of ih xs h
    | scr _ => exact h.elim
    | ref m =>
      rcases h with h | ⟨zs, e, _⟩
      · exact ⟨_, h⟩
      · exact ⟨_, e⟩
    | fn _ => exact h.elim
    | exc _ _ => exact h.elim
theorem AllL.mono {f g : Val → Prop} (h : ∀ v, f v → g v) : ∀ {xs : List Val}, AllL f xs → AllL g xs
  | [], _ => trivial
  | x :: xs, q => ⟨h x q.1, AllL.mono h q.2⟩
/-- the same in a later store -/
theorem Lf.mono {S T : Store} (hs : ∀ (m : Nat) o, S[m]? = some o → (∀ a b c : Int, o ≠ .lst [.int a, .int b, .int c]) → T[m]? = some o) : ∀ {k : Nat} {v : Val}, Lf S k v → Lf T k v
  | 0, _, h => by unfold Lf at h; exact h.elim
  | k + 1, v, h => by
    have ih := fun v => Lf.mono (S := S) (T := T) hs (k := k) (v := v)
    cases v with
    | non => trivial
    | bl b => trivial
    | int i => exact h
    | str z => exact h
    | tup xs => exact AllL.mono ih h
    | lst xs => exact AllL.mono ih h
    | scr _ => exact h
    | ref m =>
      rcases h with h | ⟨zs, e, h, hc, hl⟩
      · exact .inl (hs _ _ h (fun _ _ _ e => by cases e))
      · exact .inr ⟨zs, hs _ _ e (fun _ _ _ e => by cases e; simp at hl), AllL.mono ih h, hc, hl⟩
    | fn _ => exact h
    | exc _ _ => exact h
theorem Lf.dr {S T : Store} {l k : Nat} {v : Val} (h : Lf S k v) (p : Purse S l) (D : Dr l S T) : Lf T k v := h.mono fun m o e ho => D.kp m o (p.ne e ho) e
theorem Lf.app {S : Store} {k : Nat} {v : Val} (h : Lf S k v) (T : Store) : Lf (S ++ T) k v := h.mono fun m o e _ => at_app e T
theorem Lf.up {S : Store} : ∀ {k : Nat} {v : Val}, Lf S k v → Lf S (k + 1) v
  | 0, _, h => by unfold Lf at h; exact h.elim
  | k + 1, v, h => by
    have ih := fun v => Lf.up (S := S) (k := k) (v := v)
    cases v with
    | tup xs => exact AllL.mono ih h
    | lst xs => exact AllL.mono ih h
    | ref m =>
      rcases h with h | ⟨zs, e, h, hc, hl⟩
      · exact .inl h
      · exact .inr ⟨zs, e, AllL.mono ih h, hc, hl⟩
    | _ => exact h
theorem lfs_ints {S : Store} {k : Nat} {ns : List Int} (h : ∀ x ∈ ns, x.natAbs < 2 ^ 1900) : AllL (Lf S (k + 1)) (ns.map .int) := allL_iff.mpr fun v hv => by
  obtain ⟨x, hx, rfl⟩ := List.mem_map.mp hv
  exact h x hx
theorem cnts_ints : ∀ ns : List Int, cnts (ns.map .int) = ns.length
  | [] => rfl
  | x :: ns => by
    show 0 + 1 + cnts (ns.map .int) = ns.length + 1
    rw [cnts_ints ns]; omega
theorem cnts_app : ∀ xs ys : List Val, cnts (xs ++ ys) = cnts xs + cnts ys
  | [], ys => by simp [cnts]
  | x :: xs, ys => by simp only [List.cons_append, cnts, cnts_app xs ys]; omega
theorem allL_app {f : Val → Prop} {xs ys : List Val} (h : AllL f xs) (q : AllL f ys) : AllL f (xs ++ ys) := allL_iff.mpr fun v hv => by
  rcases List.mem_append.mp hv with hv | hv
  · exact allL_iff.mp h v hv
  · exact allL_iff.mp q v hv
theorem lf_row {S : Store} {k : Nat} {ns : List Int} {b : Int} (h : Bdd 1900 ns b) : Lf S (k + 3) (rowV ns b) := ⟨lfs_ints h.ns, h.b, trivial⟩
theorem cnt_row (ns : List Int) (b : Int) : cnt (rowV ns b) = ns.length + 2 := by
  show cnts (ns.map .int) + 1 + (0 + 1 + 0) = _
  rw [cnts_ints]
/-- a thing that is handed in to be refused -/
structure Odd (S : Store) (v : Val) : Prop where
  lf : Lf S 6 v
  cn : cnt v ≤ 400
theorem Odd.ok {S : Store} {v : Val} (h : Odd S v) : Okv S v := h.lf.okv
theorem Odd.sh {S : Store} {v : Val} (h : Odd S v) : Sh S 6 400 v := h.lf.sh.le h.cn
theorem Odd.dr {S T : Store} {l : Nat} {v : Val} (h : Odd S v) (p : Purse S l) (D : Dr l S T) : Odd T v := ⟨h.lf.dr p D, h.cn⟩
theorem Odd.app {S : Store} {v : Val} (h : Odd S v) (T : Store) : Odd (S ++ T) v := ⟨h.lf.app T, h.cn⟩
def isRef : Val → Bool
  | .ref _ => true
  | .lst _ => true
  | _ => false
def isLst : Val → Bool
  | .lst _ => true
  | _ => false
/-- an odd list, told either way -/
theorem mkL_odd (b : Bool) {zs : List Val} (S : Store) (h : AllL (Lf S 5) zs) (hc : cnts zs ≤ 190) (hl : zs.length ≤ 2) : ∃ v T, mkL b zs S = .ok v (S ++ T) ∧ Odd (S ++ T) v ∧ isRef v = true ∧ cnt v ≤ 190 ∧ (∀ k, AllL (Lf S k) zs → Lf (S ++ T) (k + 1) v) ∧ (b = true → isLst v = false) := by
  have hz : zs.length ≤ sizeLine := Nat.le_trans hl (by decide)
  cases b with
  | true => exact ⟨.ref S.length, [.lst zs], by unfold mkL; rw [if_pos hz]; rfl, ⟨.inr ⟨zs, at_new _ _ _, AllL.mono (fun v h => h.app _) h, hc, hl⟩, show 190 ≤ 400 by decide⟩, rfl, Nat.le_refl _, fun k h => .inr ⟨zs, at_new _ _ _, AllL.mono (fun v h => h.app _) h, hc, hl⟩, fun _ => rfl⟩
  | false => exact ⟨.lst zs, [], by unfold mkL; rw [if_pos hz, List.append_nil]; rfl, ⟨AllL.mono (fun v h => h.app _) h, show cnts zs ≤ 400 by omega⟩, rfl, hc, fun k h => AllL.mono (fun v h => h.app _) h, fun e => by cases e⟩
theorem mkD_odd (S : Store) : ∃ v T, mkD [] [] S = .ok v (S ++ T) ∧ Odd (S ++ T) v ∧ isRef v = true ∧ isLst v = false := ⟨.ref S.length, [.dct [] []], rfl, ⟨.inl (at_new _ _ _), show 190 ≤ 400 by decide⟩, rfl, rfl⟩
theorem ref_rat {v : Val} (h : isRef v = true) : isRat v = false := by cases v <;> first | rfl | cases h
theorem ref_numb {v : Val} (h : isRef v = true) : numb v = false := by cases v <;> first | rfl | cases h
theorem ref_row {v : Val} (h : isRef v = true) : isRow v = false := by cases v <;> first | rfl | cases h
theorem k19 {i : Int} (h : i.natAbs < 2 ^ 64) : i.natAbs < 2 ^ 1900 := pow_up h (by decide)
end GW
local macro_rules | `(tactic| walk_at "lfw") => `(tactic| (repeat' (first | exact trivial | assumption | (exact GW.k19 (by decide)) | (exact ⟨by decide, by decide⟩) | refine And.intro ?_ ?_)))
namespace GW
open PySem
end GW
local macro_rules | `(tactic| walk_at "cnw") => `(tactic| (first | (simp only [GW.cnt, GW.cnts, GW.cnts_ints]; omega) | decide))
namespace GW
open PySem
def cNoRatio (fl : Bool) : Ct := fun f => ∀ (S : Store) (l : Nat) (x y : Int) (Q : Val → Store → Prop) (X : Xt), Purse S l → IsR x y → x.natAbs < 2 ^ 1500 → y.natAbs < 2 ^ 1500 → (∀ (v : Val) (T : Store), Dr l S T → Odd T v → isRat v = false → (fl = true → isLst v = false) → Q v T) → W (f [.ref l, .tup [.int x, .int y]] S) Q X
/-- _law_no_ratio: 0 _law_purse_here 1 _law_ratio_here 2 _law_some 3 _law_top 4 _law_bottom -/
-- np nn = 2 5
def L_l_no_ratio (b1 b2 : Bool) (c_l_take : Nat) : Cs := (.cons (.tset [3, 4] (.var 1))
  (.cons (.set 2 (.lsd false (.cons (.lsd b1 (.cons (.var 3) (.cons (.var 4) .nil))) (.cons (.tpd (.cons (.var 3) .nil)) (.cons (.tpd (.cons (.var 3) (.cons (.var 4) (.cons (.cst (.int 1)) .nil)))) (.cons (.tpd (.cons (.bin .mul (.cst (.int 2)) (.var 3)) (.cons (.bin .mul (.cst (.int 2)) (.var 4)) .nil))) (.cons (.tpd (.cons (.bin .sub (.cst (.int 0)) (.var 3)) (.cons (.bin .sub (.cst (.int 0)) (.var 4)) .nil))) (.cons (.tpd (.cons (.var 3) (.cons (.cst (.int 0)) .nil))) (.cons (.tpd (.cons (.cst (.bl true)) (.cons (.cst (.int 1)) .nil))) .nil)))))))))
  (.cons (.set 2 (.bin .add (.var 2) (.lsd false (.cons (.tpd (.cons (.var 3) (.cons (.cst (.bl true)) .nil))) (.cons (.tpd (.cons (.cst .non) (.cons (.cst (.int 1)) .nil))) (.cons (.var 3) (.cons (.cst (.str "1/2")) (.cons (.cst .non) (.cons (.tpd (.cons (.cst (.str "1")) (.cons (.cst (.int 2)) .nil))) (.cons (.tpd (.cons (.var 1) (.cons (.cst (.int 1)) .nil))) (.cons (.dcd .nil .nil) (.cons (.cst (.bl true)) (.cons (.tpd .nil) (.cons (.lsd b2 (.cons (.var 1) .nil)) (.cons (.tpd (.cons (.cst (.bl false)) (.cons (.cst (.int 1)) .nil))) (.cons (.cst (.int 0)) .nil))))))))))))))))
  (.cons (.ret (.idx (.var 2) (.call c_l_take (.cons (.var 0) (.cons (.cst (.int 20)) .nil)))))
  .nil))))
section
variable {P : Pg} {fu d : Nat}
theorem no_ratio_at {i tk : Nat} {b1 b2 : Bool} (h : P.defs[i]? = some ⟨2, 5, L_l_no_ratio b1 b2 tk⟩) (ht : At P fu d tk cTake) : At P fu (d + 1) i (cNoRatio (b1 && b2)) := .mk h fun n hd S l x y Q X p r hx hy hq => by
  have ht := ht n hd
  have x9 : x.natAbs < 2 ^ 9000 := pow_up hx (by decide)
  have y9 : y.natAbs < 2 ^ 9000 := pow_up hy (by decide)
  have x1 : x.natAbs < 2 ^ 1900 := pow_up hx (by decide)
  have y1 : y.natAbs < 2 ^ 1900 := pow_up hy (by decide)
  have xx : (2 * x).natAbs < 2 ^ 1900 := by have : (2 : Nat) ^ 1500 * 2 ≤ 2 ^ 1900 := by decide
                                            omega
  have yy : (2 * y).natAbs < 2 ^ 1900 := by have : (2 : Nat) ^ 1500 * 2 ≤ 2 ^ 1900 := by decide
                                            omega
  have xx9 : (2 * x).natAbs < 2 ^ 9000 := pow_up xx (by decide)
  have yy9 : (2 * y).natAbs < 2 ^ 9000 := pow_up yy (by decide)
  have xm : (0 - x).natAbs < 2 ^ 1900 := by omega
  have ym : (0 - y).natAbs < 2 ^ 1900 := by omega
  have xm9 : (0 - x).natAbs < 2 ^ 9000 := pow_up xm (by decide)
  have ym9 : (0 - y).natAbs < 2 ^ 9000 := pow_up ym (by decide)
  obtain ⟨v1, T1, e1, o1, f1, _, _, g1⟩ := mkL_odd b1 (zs := [.int x, .int y]) S (by walk_at "lfw") (by walk_at "cnw") (by simp)
  obtain ⟨v2, T2, e2, o2, f2, g2⟩ := mkD_odd (S ++ T1)
  obtain ⟨v3, T3, e3, o3, f3, _, _, g3⟩ := mkL_odd b2 (zs := [.tup [.int x, .int y]]) (S ++ T1 ++ T2) (by walk_at "lfw") (by walk_at "cnw") (by simp)
  have o1' := (o1.app T2).app T3
  have o2' := o2.app T3
  have p' : Purse (S ++ T1 ++ T2 ++ T3) l := ((p.app T1).app T2).app T3
  have D0 : Dr l S (S ++ T1 ++ T2 ++ T3) := ((Dr.app p T1).trans (Dr.app (p.app T1) T2)).trans (Dr.app ((p.app T1).app T2) T3)
  generalize S ++ T1 ++ T2 ++ T3 = U at e3 o3 o1' o2' p' D0
  rw [W_run rfl]
  simp! [L_l_no_ratio, putT, List.zip_cons_cons, List.zip_nil_right, List.foldl_cons, List.foldl_nil, e1, e2, e3, mulOk_p (i := 2) (j := x) (n := 2) (m := 1500) (by decide) hx (by decide), mulOk_p (i := 2) (j := y) (n := 2) (m := 1500) (by decide) hy (by decide)]
  refine ht U l 20 _ _ p' (by decide) (by decide) fun k T k1 D => ?_
  have hk : k < 20 := by omega
  have key : ∀ A : List Val, A.length = 20 → (∀ v ∈ A, Odd T v ∧ isRat v = false) → (∀ v ∈ A, (b1 && b2) = true → isLst v = false) → W (idxV (.lst A) (.int k) T) Q X := fun A hl hA hB => by
    have hg : A[k]? = some (A[k]'(by omega)) := List.getElem?_eq_getElem _
    have hm := hA _ (List.getElem_mem (show k < A.length by omega))
    rw [W_idxLN hg]
    exact hq _ _ (D0.trans D) hm.1 hm.2 (hB _ (List.getElem_mem _))
  refine key _ rfl ?_ ?_
  case refine_2 =>
    simp only [List.mem_cons, List.not_mem_nil, or_false, Bool.and_eq_true]
    rintro v hv ⟨z1, z2⟩
    rcases hv with rfl | rfl | rfl | rfl | rfl | rfl | rfl | rfl | rfl | rfl | rfl | rfl | rfl | rfl | rfl | rfl | rfl | rfl | rfl | rfl <;> first | rfl | exact g1 z1 | exact g2 | exact g3 z2
  have hp := r.pos
  simp only [List.mem_cons, List.not_mem_nil, or_false]
  rintro v (rfl | rfl | rfl | rfl | rfl | rfl | rfl | rfl | rfl | rfl | rfl | rfl | rfl | rfl | rfl | rfl | rfl | rfl | rfl | rfl)
  · exact ⟨o1'.dr p' D, ref_rat f1⟩
  · exact ⟨Odd.mk (by walk_at "lfw") (by walk_at "cnw"), rfl⟩
  · exact ⟨Odd.mk (by walk_at "lfw") (by walk_at "cnw"), rfl⟩
  · refine ⟨Odd.mk (by walk_at "lfw") (by walk_at "cnw"), ?_⟩
    have : Int.gcd (2 * x) (2 * y) = 2 := by rw [Int.gcd_mul_left, r.low]; rfl
    simp [isRat, this]
  · refine ⟨Odd.mk (by walk_at "lfw") (by walk_at "cnw"), ?_⟩
    simp [isRat]; omega
  · exact ⟨Odd.mk (by walk_at "lfw") (by walk_at "cnw"), rfl⟩
  · exact ⟨Odd.mk (by walk_at "lfw") (by walk_at "cnw"), rfl⟩
  · exact ⟨Odd.mk (by walk_at "lfw") (by walk_at "cnw"), rfl⟩
  · exact ⟨Odd.mk (by walk_at "lfw") (by walk_at "cnw"), rfl⟩
  · exact ⟨Odd.mk (by walk_at "lfw") (by walk_at "cnw"), rfl⟩
  · exact ⟨Odd.mk (by walk_at "lfw") (by walk_at "cnw"), rfl⟩
  · exact ⟨Odd.mk (by walk_at "lfw") (by walk_at "cnw"), rfl⟩
  · exact ⟨Odd.mk (by walk_at "lfw") (by walk_at "cnw"), rfl⟩
  · exact ⟨Odd.mk (by walk_at "lfw") (by walk_at "cnw"), rfl⟩
  · exact ⟨o2'.dr p' D, ref_rat f2⟩
  · exact ⟨Odd.mk (by walk_at "lfw") (by walk_at "cnw"), rfl⟩
  · exact ⟨Odd.mk (by walk_at "lfw") (by walk_at "cnw"), rfl⟩
  · exact ⟨o3.dr p' D, ref_rat f3⟩
  · exact ⟨Odd.mk (by walk_at "lfw") (by walk_at "cnw"), rfl⟩
  · exact ⟨Odd.mk (by walk_at "lfw") (by walk_at "cnw"), rfl⟩
end
end GW
set_option exponentiation.threshold 20000
/-! Core 44: rows that are odd. -/
namespace GW
open PySem
section
variable {S : Store} {Q : Val → Store → Prop} {X : Xt}
theorem cut_to (xs : List Val) (k : Nat) : cutL xs none (some (k : Int)) = xs.take k := by
  unfold cutL
  rw [HT.sIx_none, HT.sIx_nat, List.drop_zero, Nat.sub_zero, List.take_eq_take_iff]
  omega
theorem cut_from (xs : List Val) (k : Nat) : cutL xs (some (k : Int)) none = xs.drop k := by
  unfold cutL
  rw [HT.sIx_none, HT.sIx_nat]
  by_cases h : k ≤ xs.length
  · rw [Nat.min_eq_left h, List.take_of_length_le (by simp)]
  · rw [Nat.min_eq_right (by omega), List.drop_of_length_le (Nat.le_refl _), List.drop_of_length_le (by omega)]
    simp
theorem W_slcT_to {xs : List Val} {k : Nat} : W (slcV (.tup xs) none (some (k : Int)) S) Q X = Q (.tup (xs.take k)) S := by
  show W (Res.ok (Val.tup (cutL xs none (some (k : Int)))) S) Q X = _
  rw [cut_to]; rfl
theorem W_slcT_from {xs : List Val} {k : Nat} : W (slcV (.tup xs) (some (k : Int)) none S) Q X = Q (.tup (xs.drop k)) S := by
  show W (Res.ok (Val.tup (cutL xs (some (k : Int)) none)) S) Q X = _
  rw [cut_from]; rfl
theorem W_slcT_from1 {xs : List Val} {k : Nat} : W (slcV (.tup xs) (some ((k : Int) + 1)) none S) Q X = Q (.tup (xs.drop (k + 1))) S := by
  rw [show ((k : Int) + 1) = ((k + 1 : Nat) : Int) by omega, W_slcT_from]
theorem W_mulT {x : Val} {n : Int} (h : -1000 ≤ n) (h' : n ≤ 1000) : W (bopV .mul (.tup [x]) (.int n) S) Q X = Q (.tup (List.replicate n.toNat x)) S := by
  have e : bopV .mul (.tup [x]) (.int n) S = .ok (.tup (List.replicate n.toNat [x]).flatten) S := by
    show (if _ then _ else _) = _
    exact if_pos ⟨by simp, h, h', by simp⟩
  rw [e]
  have : ∀ m : Nat, (List.replicate m [x]).flatten = List.replicate m x := fun m => by
    induction m with
    | zero => rfl
    | succ m ih => rw [List.replicate_succ, List.flatten_cons, ih, List.replicate_succ]; rfl
  rw [this]; rfl
end
theorem add_tt {o : Bop} (h : o = .add ∨ o = .addR) {a b : List Val} {S : Store} (hl : a.length + b.length ≤ 1000) : bopV o (.tup a) (.tup b) S = .ok (.tup (a ++ b)) S := by
  rcases h with rfl | rfl
  · exact bop_add_tup (Nat.le_trans hl (by decide))
  · show addV (.tup a) (.tup b) S = _
    exact bop_add_tup (Nat.le_trans hl (by decide))
def cNoRow (fl : Bool) : Ct := fun f => ∀ (S : Store) (l : Nat) (ns : List Int) (b : Int) (way : Nat) (Q : Val → Store → Prop) (X : Xt), Purse S l → IsRow ns b → Bdd 1890 ns b → way < 21 → (∀ (v : Val) (T : Store), Dr l S T → Odd T v → isRow v = false → (fl = true → isLst v = false) → Q v T) → W (f [.ref l, rowV ns b, .int way] S) Q X
/-- _law_no_row: 0 _law_purse_here 1 _law_row_here 2 _law_way 3 _law_at 4 _law_odd 5 _law_some 6 _law_numbers 7 _law_bottom 8 _law_one -/
-- np nn = 3 9
def L_l_no_row (o : Bop) (b1 b2 b3 : Bool) (c_l_take : Nat) : Cs := (.cons (.tset [6, 7] (.var 1))
  (.cons (.set 3 (.call c_l_take (.cons (.var 0) (.cons (.blt .len (.cons (.var 6) .nil)) .nil))))
  (.cons (.set 4 (.idx (.lsd false (.cons (.cst (.bl true)) (.cons (.cst .non) (.cons (.cst (.str "1")) (.cons (.tpd (.cons (.cst (.int 1)) .nil)) (.cons (.lsd b1 (.cons (.cst (.int 1)) .nil)) (.cons (.cst (.bl false)) .nil))))))) (.call c_l_take (.cons (.var 0) (.cons (.cst (.int 6)) .nil)))))
  (.cons (.set 5 (.lsd false (.cons (.tpd (.cons (.bin .add (.bin .add (.slc (.var 6) .no (.yes (.var 3))) (.tpd (.cons (.var 4) .nil))) (.slc (.var 6) (.yes (.bin .add (.var 3) (.cst (.int 1)))) .no)) (.cons (.var 7) .nil))) (.cons (.tpd (.cons (.blt .tuple (.cons (.lc false (.one 8) (.val (.var 6)) .nil (.bin .mul (.cst (.int 3)) (.var 8))) .nil)) (.cons (.bin .mul (.cst (.int 3)) (.var 7)) .nil))) .nil))))
  (.cons (.set 5 (.bin .add (.var 5) (.lsd false (.cons (.tpd (.cons (.blt .list (.cons (.var 6) .nil)) (.cons (.var 7) .nil))) (.cons (.tpd (.cons (.var 6) (.cons (.cst (.int 0)) .nil))) (.cons (.tpd (.cons (.blt .tuple (.cons (.lc false (.one 8) (.val (.var 6)) .nil (.bin .sub (.cst (.int 0)) (.var 8))) .nil)) (.cons (.bin .sub (.cst (.int 0)) (.var 7)) .nil))) .nil))))))
  (.cons (.set 5 (.bin .add (.var 5) (.lsd false (.cons (.tpd (.cons (.var 6) (.cons (.var 4) .nil))) (.cons (.tpd (.cons (.var 6) .nil)) (.cons (.tpd (.cons (.var 6) (.cons (.var 7) (.cons (.cst (.int 1)) .nil)))) (.cons (.lsd b2 (.cons (.var 6) (.cons (.var 7) .nil))) (.cons (.tpd (.cons (.tpd .nil) (.cons (.cst (.int 1)) .nil))) (.cons (.tpd (.cons (.bin .mul (.tpd (.cons (.cst (.int 0)) .nil)) (.cst (.int 13))) (.cons (.cst (.int 1)) .nil))) .nil)))))))))
  (.cons (.set 5 (.bin .add (.var 5) (.lsd false (.cons (.var 6) (.cons (.var 7) (.cons (.var 4) (.cons (.dcd .nil .nil) (.cons (.bin o (.idx (.var 1) (.cst (.int 0))) (.var 1)) (.cons (.tpd (.cons (.var 1) (.cons (.cst (.int 1)) .nil))) (.cons (.tpd (.cons (.tpd (.cons (.idx (.var 1) (.cst (.int 0))) .nil)) (.cons (.var 7) .nil))) (.cons (.cst (.str "")) (.cons (.lsd b3 (.cons (.var 1) .nil)) .nil))))))))))))
  (.cons (.ret (.idx (.bin .add (.var 5) (.lsd false (.cons (.tpd (.cons (.bin .mul (.tpd (.cons (.cst (.int 0)) .nil)) (.blt .len (.cons (.var 6) .nil))) (.cons (.cst (.int 2)) .nil))) .nil))) (.var 2)))
  .nil))))))))
theorem isRow_odd {xs : List Val} {b : Val} (h : xs.all numb = false) : isRow (.tup [.tup xs, b]) = false := by
  cases b <;> simp [isRow, isNums, h]
theorem isRow_2 {a b : Val} (h : ∀ xs, a ≠ .tup xs) : isRow (.tup [a, b]) = false := by
  cases a <;> first | rfl | exact absurd rfl (h _)
theorem isRow_n {xs : List Val} (h : xs.length ≠ 2) : isRow (.tup xs) = false := by
  match xs with
  | [] => rfl
  | [a] => cases a <;> rfl
  | [a, b] => exact absurd rfl h
  | a :: b :: c :: r => cases a <;> first | rfl | (cases b <;> rfl)
theorem isRow_ints (ns : List Int) : isRow (.tup (ns.map .int)) = false := by
  by_cases h : ns.length = 2
  · match ns, h with
    | [a, b], _ => rfl
  · exact isRow_n (by simpa using h)
theorem gcdL_rep (k : Nat) (b : Int) (hb : 0 ≤ b) : gcdL (List.replicate k 0) b = b := by
  induction k with
  | zero => rfl
  | succ k ih =>
    show gcdL (List.replicate k 0) (Int.gcd b 0 : Int) = b
    rw [Int.gcd_zero_right, show ((b.natAbs : Nat) : Int) = b by omega]
    exact ih
section
variable {P : Pg} {fu d : Nat}
theorem no_row_at {i tk : Nat} {o : Bop} {b1 b2 b3 : Bool} (ho : o = .add ∨ o = .addR) (h : P.defs[i]? = some ⟨3, 9, L_l_no_row o b1 b2 b3 tk⟩) (ht : At P fu d tk cTake) : At P fu (d + 1) i (cNoRow (b1 && b2 && b3)) := .mk h fun n hd S l ns b way Q X p r bd hw hq => by
  have ht := ht n hd
  have r1 := r.lo
  have r2 := r.hi
  have r3 := r.pos
  have up : (2 : Nat) ^ 1890 * 3 ≤ 2 ^ 1900 := by decide
  have n9 : ∀ x ∈ ns, x.natAbs < 2 ^ 1900 := fun x hx => pow_up (bd.ns x hx) (by decide)
  have b9 : b.natAbs < 2 ^ 1900 := pow_up bd.b (by decide)
  rw [W_run rfl]
  simp! [L_l_no_row, rowV, putT, List.zip_cons_cons, List.zip_nil_right, List.foldl_cons, List.foldl_nil, List.length_map]
  refine ht S l ns.length _ _ p (by omega) (by omega) fun at' S1 k1 D1 => ?_
  obtain ⟨v1, T1, e1, o1, f1, c1, l1, g1⟩ := mkL_odd b1 (zs := [.int 1]) S1 (by walk_at "lfw") (by walk_at "cnw") (by simp)
  simp! [e1]
  have l1 := l1 3 (by walk_at "lfw")
  have p1 := D1.pu.app T1
  have D1' := D1.trans (Dr.app D1.pu T1)
  generalize S1 ++ T1 = U1 at e1 o1 p1 D1' l1
  refine ht U1 l 6 _ _ p1 (by decide) (by decide) fun k S2 k2 D2 => ?_
  have hodd : ∃ odd, idxV (.lst [.bl true, .non, .str "1", .tup [.int 1], v1, .bl false]) (.int k) S2 = .ok odd S2 ∧ Odd S2 odd ∧ Lf S2 4 odd ∧ cnt odd ≤ 190 ∧ numb odd = false ∧ isRow odd = false ∧ (b1 = true → isLst odd = false) := by
    have hA : ∀ v ∈ ([.bl true, .non, .str "1", .tup [.int 1], v1, .bl false] : List Val), Odd S2 v ∧ Lf S2 4 v ∧ cnt v ≤ 190 ∧ numb v = false ∧ isRow v = false ∧ (b1 = true → isLst v = false) := by
      simp only [List.mem_cons, List.not_mem_nil, or_false]
      rintro v (rfl | rfl | rfl | rfl | rfl | rfl)
      · exact ⟨⟨by walk_at "lfw", by walk_at "cnw"⟩, by walk_at "lfw", by walk_at "cnw", rfl, rfl, fun _ => rfl⟩
      · exact ⟨⟨by walk_at "lfw", by walk_at "cnw"⟩, by walk_at "lfw", by walk_at "cnw", rfl, rfl, fun _ => rfl⟩
      · exact ⟨⟨by walk_at "lfw", by walk_at "cnw"⟩, by walk_at "lfw", by walk_at "cnw", rfl, rfl, fun _ => rfl⟩
      · exact ⟨⟨by walk_at "lfw", by walk_at "cnw"⟩, by walk_at "lfw", by walk_at "cnw", rfl, rfl, fun _ => rfl⟩
      · exact ⟨o1.dr p1 D2, l1.dr p1 D2, c1, ref_numb f1, ref_row f1, g1⟩
      · exact ⟨⟨by walk_at "lfw", by walk_at "cnw"⟩, by walk_at "lfw", by walk_at "cnw", rfl, rfl, fun _ => rfl⟩
    have hg : ([.bl true, .non, .str "1", .tup [.int 1], v1, .bl false] : List Val)[k]? = some (([.bl true, .non, .str "1", .tup [.int 1], v1, .bl false] : List Val)[k]'(by simp; omega)) := List.getElem?_eq_getElem _
    exact ⟨_, idx_lstN hg, hA _ (List.getElem_mem _)⟩
  obtain ⟨odd, eo, oo, ol, oc, on, orw, og⟩ := hodd
  simp! [eo, W_slcT_to, W_slcT_from1, List.length_map, List.length_append, List.length_take, List.length_drop]
  refine ⟨by omega, by omega, ?_⟩
  refine W_lcA ns Val.int (fun z => .int (3 * z)) (live_t _ _ _) (by omega) (fun z hz => by simp! [GW.W_ok]) (fun z hz => by simp! [mulOk_p (i := 3) (j := z) (n := 2) (m := 1890) (by decide) (bd.ns z hz) (by decide)]) ?_
  simp! [mulOk_p (i := 3) (j := b) (n := 2) (m := 1890) (by decide) bd.b (by decide), List.length_map]
  refine ⟨by omega, by omega, ?_⟩
  refine W_lcA ns Val.int (fun z => .int (0 - z)) (live_t _ _ _) (by omega) (fun z hz => by simp! [GW.W_ok]) (fun z hz => by simp! [GW.W_ok]) ?_
  obtain ⟨v2, T2, e2, o2, f2, c2, _, g2⟩ := mkL_odd b2 (zs := [.tup (ns.map .int), .int b]) S2 ⟨lfs_ints n9, b9, trivial⟩ (by simp only [cnts, cnt, cnts_ints]; omega) (by simp)
  obtain ⟨v3, T3, e3, o3, f3, g3⟩ := mkD_odd (S2 ++ T2)
  obtain ⟨v4, T4, e4, o4, f4, c4, _, g4⟩ := mkL_odd b3 (zs := [.tup [.tup (ns.map .int), .int b]]) (S2 ++ T2 ++ T3) ⟨⟨lfs_ints n9, b9, trivial⟩, trivial⟩ (by simp only [cnts, cnt, cnts_ints]; omega) (by simp)
  have ea : ∀ S, bopV o (.tup (ns.map .int)) (.tup [.tup (ns.map .int), .int b]) S = .ok (.tup (ns.map .int ++ [.tup (ns.map .int), .int b])) S := fun S => add_tt ho (by simp; omega)
  simp! [List.length_map, e2, W_mulT (x := .int 0) (n := 13) (by decide) (by decide), e3, ea, e4, W_mulT (x := .int 0) (n := (ns.length : Int)) (by omega) (by omega)]
  refine ⟨by omega, ?_⟩
  have o2' := (o2.app T3).app T4
  have o3' := o3.app T4
  have oo' := ((oo.app T2).app T3).app T4
  have ol' := ((ol.app T2).app T3).app T4
  have D' : Dr l S (S2 ++ T2 ++ T3 ++ T4) := D1'.trans (D2.trans (((Dr.app D2.pu T2).trans (Dr.app (D2.pu.app T2) T3)).trans (Dr.app ((D2.pu.app T2).app T3) T4)))
  generalize S2 ++ T2 ++ T3 ++ T4 = U at o2' o3' oo' ol' D' o4
  have key : ∀ A : List Val, A.length = 21 → (∀ v ∈ A, Odd U v ∧ isRow v = false) → (∀ v ∈ A, (b1 && b2 && b3) = true → isLst v = false) → W (idxV (.lst A) (.int way) U) Q X := fun A hl hA hB => by
    have hg : A[way]? = some (A[way]'(by omega)) := List.getElem?_eq_getElem _
    have hm := hA _ (List.getElem_mem (show way < A.length by omega))
    rw [W_idxLN hg]
    exact hq _ _ D' hm.1 hm.2 (hB _ (List.getElem_mem _))
  have li : ∀ {k : Nat}, AllL (Lf U (k + 1)) (ns.map .int) := lfs_ints n9
  have ci := cnts_ints ns
  refine key _ rfl ?_ ?_
  case refine_2 =>
    simp only [List.mem_cons, List.not_mem_nil, or_false, Bool.and_eq_true]
    rintro v hv ⟨⟨z1, z2⟩, z3⟩
    rcases hv with rfl | rfl | rfl | rfl | rfl | rfl | rfl | rfl | rfl | rfl | rfl | rfl | rfl | rfl | rfl | rfl | rfl | rfl | rfl | rfl | rfl <;> first | rfl | exact g2 z2 | exact g3 | exact g4 z3 | exact og z1
  simp only [List.mem_cons, List.not_mem_nil, or_false]
  rintro v (rfl | rfl | rfl | rfl | rfl | rfl | rfl | rfl | rfl | rfl | rfl | rfl | rfl | rfl | rfl | rfl | rfl | rfl | rfl | rfl | rfl)
  · refine ⟨⟨⟨allL_app (allL_app ?_ ⟨ol', trivial⟩) ?_, b9, trivial⟩, ?_⟩, isRow_odd ?_⟩
    · rw [← List.map_take]; exact lfs_ints fun x hx => n9 x (List.mem_of_mem_take hx)
    · rw [← List.map_drop]; exact lfs_ints fun x hx => n9 x (List.mem_of_mem_drop hx)
    · simp only [cnt, cnts, cnts_app, ← List.map_take, ← List.map_drop, cnts_ints, List.length_take, List.length_drop]; omega
    · simp [List.all_append, on]
  · have e : ns.map (fun z => Val.int (3 * z)) = (ns.map (· * 3)).map .int := by rw [List.map_map]; exact List.map_congr_left fun z _ => by show Val.int _ = Val.int _; rw [Int.mul_comm]
    rw [e]
    refine ⟨⟨⟨lfs_ints ?_, ?_, trivial⟩, ?_⟩, ?_⟩
    · intro x hx
      obtain ⟨y, hy, rfl⟩ := List.mem_map.mp hx
      have := bd.ns y hy
      show (y * 3).natAbs < _
      omega
    · show (3 * b).natAbs < _
      have := bd.b
      omega
    · simp only [cnt, cnts, cnts_ints, List.length_map]; omega
    · have g := gcdL_mul ns b 3 (by decide) (by omega)
      rw [r.low, Int.mul_comm b 3] at g
      simp only [isRow, intOf_map, g]
      simp
  · exact ⟨⟨⟨li, b9, trivial⟩, by simp only [cnt, cnts, ci]; omega⟩, isRow_2 (by intro xs; simp)⟩
  · exact ⟨⟨⟨li, by walk_at "lfw"⟩, by simp only [cnt, cnts, ci]; omega⟩, by simp [isRow]⟩
  · have e : ns.map (fun z => Val.int (0 - z)) = (ns.map (0 - ·)).map .int := by rw [List.map_map]; rfl
    rw [e]
    refine ⟨⟨⟨lfs_ints ?_, ?_, trivial⟩, ?_⟩, ?_⟩
    · intro x hx
      obtain ⟨y, hy, rfl⟩ := List.mem_map.mp hx
      have := n9 y hy
      show (0 - y).natAbs < _
      omega
    · show (0 - b).natAbs < _
      omega
    · simp only [cnt, cnts, cnts_ints, List.length_map]; omega
    · have : ¬ (0 < 0 - b) := by omega
      simp only [isRow, decide_eq_false this]
      simp
  · refine ⟨⟨⟨li, ol'.up, trivial⟩, by simp only [cnt, cnts, ci]; omega⟩, ?_⟩
    cases odd <;> first | rfl | (cases on; done)
  · exact ⟨⟨⟨li, trivial⟩, by simp only [cnt, cnts, ci]; omega⟩, rfl⟩
  · exact ⟨⟨⟨li, b9, by walk_at "lfw"⟩, by simp only [cnt, cnts, ci]; omega⟩, rfl⟩
  · exact ⟨o2', ref_row f2⟩
  · exact ⟨⟨by walk_at "lfw", by walk_at "cnw"⟩, rfl⟩
  · exact ⟨⟨by walk_at "lfw", by walk_at "cnw"⟩, by decide⟩
  · exact ⟨⟨li, by simp only [cnt, ci]; omega⟩, isRow_ints ns⟩
  · exact ⟨⟨b9, by walk_at "cnw"⟩, rfl⟩
  · exact ⟨oo', orw⟩
  · exact ⟨o3', ref_row f3⟩
  · refine ⟨⟨allL_app li ⟨li, b9, trivial⟩, by simp only [cnt, cnts, cnts_app, ci]; omega⟩, isRow_n (by rw [List.length_append, List.length_map]; show ns.length + 2 ≠ 2; omega)⟩
  · exact ⟨⟨⟨⟨li, b9, trivial⟩, by walk_at "lfw"⟩, by simp only [cnt, cnts, ci]; omega⟩, isRow_odd (by simp [numb])⟩
  · exact ⟨⟨⟨⟨li, trivial⟩, b9, trivial⟩, by simp only [cnt, cnts, ci]; omega⟩, isRow_odd (by simp [numb])⟩
  · exact ⟨⟨by walk_at "lfw", by walk_at "cnw"⟩, rfl⟩
  · exact ⟨o4, ref_row f4⟩
  · have e : List.replicate ((ns.length : Int)).toNat (Val.int 0) = (List.replicate ns.length 0).map .int := by simp
    rw [e]
    refine ⟨⟨⟨lfs_ints ?_, by walk_at "lfw"⟩, ?_⟩, ?_⟩
    · intro x hx
      rw [(List.mem_replicate.mp hx).2]
      exact k19 (by decide)
    · simp only [cnt, cnts, cnts_ints, List.length_replicate]; omega
    · simp only [isRow, intOf_map, gcdL_rep ns.length 2 (by decide)]
      simp
end
end GW
set_option exponentiation.threshold 20000
/-! Core 45: what is shown alike; rows by the laws' own look. -/
namespace GW
open PySem
theorem Lf.le {S : Store} {k m : Nat} {v : Val} (h : Lf S k v) (hm : k ≤ m) : Lf S m v := by
  induction hm with
  | refl => exact h
  | step _ ih => exact ih.up
theorem repr_lf {S : Store} {k : Nat} {v : Val} (h : Lf S k v) (hk : k ≤ 12) (hc : cnt v ≤ 8000) : ∃ z, bltV .repr [v] S = .ok (.str z) S := repr_of ((h.le hk).sh) hc
/-- plain things with numbers of any size that is shown -/
def Lb : Nat → Val → Prop
  | 0, _ => False
  | k + 1, v => match v with
    | .non => True
    | .bl _ => True
    | .int i => i.natAbs < 2 ^ 11900
    | .str z => (z.cps.toList.all fun c => decide (c < 128)) = true ∧ z.cps.size ≤ 8
    | .tup xs => AllL (Lb k) xs
    | .lst xs => AllL (Lb k) xs
    | _ => False
def ShB (S : Store) (k w : Nat) (v : Val) : Prop := ∃ d, toD S k v = some d ∧ big d = true ∧ d.leavesShort 12001 = true ∧ d.bulk ≤ w ∧ d.depth ≤ k
def ShBs (S : Store) (k w : Nat) (xs : List Val) : Prop := ∃ ds, allD (toD S k) xs = some ds ∧ bigs ds = true ∧ PyData.leavesShortAll 12001 ds = true ∧ PyData.bulkAll ds ≤ w ∧ PyData.depthAll ds ≤ k
theorem shBs_cnt {S : Store} {k : Nat} (h : ∀ v, Lb k v → ShB S k (cnt v) v) : ∀ xs : List Val, AllL (Lb k) xs → ShBs S k (cnts xs) xs
  | [], _ => ⟨[], rfl, rfl, rfl, Nat.zero_le _, by simp [PyData.depthAll]⟩
  | x :: xs, q => by
    obtain ⟨d, a1, a2, a3, a4, a5⟩ := h x q.1
    obtain ⟨ds, b1, b2, b3, b4, b5⟩ := shBs_cnt h xs q.2
    refine ⟨d :: ds, ?_, ?_, ?_, ?_, ?_⟩
    · unfold allD; rw [a1, b1]
    · simp only [bigs, a2, b2, Bool.and_true]
    · simp only [PyData.leavesShortAll, a3, b3, Bool.and_true]
    · simp only [PyData.bulkAll, cnts]; omega
    · simp only [PyData.depthAll]; omega
theorem Lb.sh {S : Store} : ∀ {k : Nat} {v : Val}, Lb k v → ShB S k (cnt v) v
  | 0, _, h => by unfold Lb at h; exact h.elim
  | k + 1, v, h => by
    have ih := fun v => Lb.sh (S := S) (k := k) (v := v)
    cases v with
    | non => exact ⟨.none, rfl, rfl, rfl, Nat.zero_le _, by simp [PyData.depth]⟩
    | bl b => exact ⟨.bool b, rfl, rfl, rfl, Nat.zero_le _, by simp [PyData.depth]⟩
    | int i =>
      have h' : i.natAbs < 2 ^ 11900 := h
      have hl : i.natAbs.log2 < 12000 := by
        by_cases z : i.natAbs = 0
        · rw [z]; decide
        · exact Nat.lt_trans ((Nat.log2_lt z).mpr h') (by decide)
      refine ⟨.int i, rfl, by unfold big; exact decide_eq_true hl, ?_, Nat.zero_le _, by simp [PyData.depth]⟩
      unfold PyData.leavesShort PyData.shown
      refine decide_eq_true ?_
      rw [ofString_length]
      exact int_text_length_le (k := 12000) (by decide) hl
    | str z =>
      refine ⟨.str z, rfl, rfl, ?_, h.2, by simp [PyData.depth]⟩
      unfold PyData.leavesShort
      exact List.all_eq_true.mpr fun c hc => decide_eq_true (Nat.lt_trans (of_decide_eq_true (List.all_eq_true.mp h.1 c hc)) (by decide))
    | tup xs =>
      obtain ⟨ds, b1, b2, b3, b4, b5⟩ := shBs_cnt ih xs h
      exact ⟨.tuple ds, by show (allD (toD S k) xs).map PyData.tuple = _; rw [b1]; rfl, by simpa only [big] using b2, by simpa only [PyData.leavesShort] using b3, by simpa only [PyData.bulk, cnt] using b4, by simp only [PyData.depth]; omega⟩
    | lst xs =>
      obtain ⟨ds, b1, b2, b3, b4, b5⟩ := shBs_cnt ih xs h
      exact ⟨.list ds, by show (allD (toD S k) xs).map PyData.list = _; rw [b1]; rfl, by simpa only [big] using b2, by simpa only [PyData.leavesShort] using b3, by simpa only [PyData.bulk, cnt] using b4, by simp only [PyData.depth]; omega⟩
    | scr _ => exact h.elim
    | ref _ => exact h.elim
    | fn _ => exact h.elim
    | exc _ _ => exact h.elim
theorem Lb.up : ∀ {k : Nat} {v : Val}, Lb k v → Lb (k + 1) v
  | 0, _, h => by unfold Lb at h; exact h.elim
  | k + 1, v, h => by
    have ih := fun v => Lb.up (k := k) (v := v)
    cases v with
    | tup xs => exact AllL.mono ih h
    | lst xs => exact AllL.mono ih h
    | _ => exact h
theorem Lb.le {k m : Nat} {v : Val} (h : Lb k v) (hm : k ≤ m) : Lb m v := by
  induction hm with
  | refl => exact h
  | step _ ih => exact ih.up
theorem repr_lb {k : Nat} {v : Val} (h : Lb k v) (hk : k ≤ 12) (hc : cnt v ≤ 1300) (S : Store) : ∃ z, bltV .repr [v] S = .ok (.str z) S := by
  obtain ⟨d, a1, a2, a3, a4, a5⟩ := (h.le hk).sh (S := S)
  refine ⟨d.shown, ?_⟩
  show reprV v S = _
  unfold reprV
  rw [a1]
  dsimp only
  have := PyData.shown_le_bulk 12001 (by decide) d a3
  have e : sizeLine = 16777216 := by decide
  exact if_pos ⟨.inr a2, by omega, by omega⟩
theorem lbs_ints {k : Nat} {ns : List Int} (h : ∀ x ∈ ns, x.natAbs < 2 ^ 11900) : AllL (Lb (k + 1)) (ns.map .int) := allL_iff.mpr fun v hv => by
  obtain ⟨x, hx, rfl⟩ := List.mem_map.mp hv
  exact h x hx
theorem lb_row {k : Nat} {ns : List Int} {b : Int} (h : Bdd 11900 ns b) : Lb (k + 3) (rowV ns b) := ⟨lbs_ints h.ns, h.b, trivial⟩
/-! the laws' own look -/
def cAlike : Ct := fun f => ∀ (S : Store) (xs : List Val) (k : Nat), Lb k (.tup xs) → k ≤ 12 → cnt (.tup xs) ≤ 1300 → f [.tup xs, .tup xs] S = .ok (.bl true) S
def cGoodRow : Ct := fun f => ∀ (S : Store) (ns : List Int) (b : Int), IsRow ns b → Bdd 9000 ns b → f [rowV ns b] S = .ok (.bl true) S
section
variable {P : Pg} {fu d : Nat}
theorem alike_at {i : Nat} (h : P.defs[i]? = some ⟨2, 2, L_l_alike⟩) : At P fu (d + 1) i cAlike := .mk h fun n hd S xs k hl hk hc => by
  obtain ⟨z, e⟩ := repr_lb hl hk hc S
  simp [runD, L_l_alike, start0, isi_t_tup, e, str_eq]
theorem l_is_numbers_at {i c : Nat} (h : P.defs[i]? = some ⟨1, 2, L_l_is_numbers c⟩) (hc : At P fu d c cNum) : At P fu (d + 1) i (fun f => ∀ (S : Store) (ns : List Int), 1 ≤ ns.length → ns.length ≤ 12 → (∀ x ∈ ns, x.natAbs < 2 ^ 9000) → f [.tup (ns.map .int)] S = .ok (.bl true) S) := .mk h fun n hd S ns h1 h2 hk => by
  refine W.eq ?_
  rw [W_run rfl]
  have c1 : (1 : Int) ≤ ns.length := by omega
  have c2 : (ns.length : Int) ≤ 12 := by omega
  simp! [L_l_is_numbers, List.length_map, c1, c2]
  refine W_lcI _ (fun k acc T => acc = [] ∧ T = S) (by simp; omega) ⟨rfl, rfl⟩ (fun _ _ _ _ => live_t _ _ _) ?_ ?_
  · rintro k v acc T hk' ⟨rfl, rfl⟩
    rw [List.getElem?_map, Option.map_eq_some_iff] at hk'
    obtain ⟨x, hx, rfl⟩ := hk'
    simp! [hc n hd T (.int x) (hk x (List.mem_of_getElem? hx)), numb, reduceCtorEq, false_implies]
    exact id
  · rintro acc T ⟨rfl, rfl⟩ _
    simp! [Nat.zero_le]
    rw [nil_eq]
    simp! [GW.W_ok]
theorem eq_row (S : Store) (ns ms : List Int) (b c : Int) : cmpE .eq (rowV ns b) (rowV ms c) S = some (decide (ns = ms) && decide (b = c)) := (tupD intD).eqP intD (by decide) (by decide) S ns ms b c
theorem l_is_row_at {i an nu sh : Nat} (h : P.defs[i]? = some ⟨1, 1, L_l_is_row an nu sh⟩) (ha : At P fu d an (fun f => ∀ (S : Store) (ns : List Int), 1 ≤ ns.length → ns.length ≤ 12 → (∀ x ∈ ns, x.natAbs < 2 ^ 9000) → f [.tup (ns.map .int)] S = .ok (.bl true) S)) (hn : At P fu d nu cNum) (hs : At P fu d sh cShort) : At P fu (d + 1) i cGoodRow := .mk h fun n hd S ns b r k => by
  refine W.eq ?_
  rw [W_run rfl]
  have e1 := ha n hd S ns r.lo r.hi k.ns
  have e2 := hn n hd S (.int b) k.b
  have e3 := hs n hd S (.tup (ns.map .int)) ns b (.inl rfl) (by have := r.hi; omega) r.pos k
  rw [short_same r.low] at e3
  have e4 := eq_row S ns ns b b
  unfold rowV at *
  simp! [L_l_is_row, e1, e2, numb, r.pos, e3, e4]
  simp
end
end GW
set_option exponentiation.threshold 20000
/-! Core 46: a law's loop; a walk cut in two. -/
namespace GW
open PySem
end GW
local macro_rules
  | `(tactic| simp_all! [$[$ls],*]) => `(tactic| try simp only [GW.W_ok, GW.W_exc, GW.WF_nx, GW.WF_rt, GW.WF_ex, GW.W_cst, GW.W_var, GW.W_glo, GW.W_bin, GW.W_neg, GW.W_not, GW.W_and, GW.W_or, GW.W_cmp, GW.W_chn, GW.W_ife, GW.W_isi, GW.W_idx, GW.W_slc, GW.W_slcR, GW.W_newR, GW.W_tpd, GW.W_lsd, GW.W_dcd, GW.W_blt, GW.W_call, GW.W_mth, GW.W_lc, GW.Ws_n, GW.Ws_c, GW.Wp_n, GW.intQ_i, GW.Wp_y, GW.Wc_n, GW.Wc_c, GW.Wi_val, GW.Wi_rng1, GW.Wi_rng2, GW.Wi_enm, GW.Wi_zip, GW.Wi_rev, GW.F_set, GW.F_tset, GW.F_par, GW.F_sset, GW.F_exp, GW.F_ret, GW.F_retN, GW.F_pas, GW.F_for, GW.F_rai, GW.F_tri, GW.S_n, GW.S_c, GW.H_n, GW.H_some, GW.H_none, GW.getS_s, GW.getS_0, GW.W_optB, GW.W_truB, GW.W_mkT, GW.W_mkLf, GW.W_mkLt, GW.W_add, GW.W_sub, GW.W_mul, GW.W_div, GW.W_mod, GW.W_addL, GW.W_addT, GW.W_lenT, GW.W_lenL, GW.W_lenC, GW.W_abs, GW.W_intB, GW.W_intI, GW.W_tupleL, GW.W_tupleT, GW.W_listL, GW.W_listT, GW.W_listRL, GW.W_listRT, GW.W_neg', GW.W_max2, GW.W_min2, GW.W_eqI, GW.W_neI, GW.W_ltI, GW.W_leI, GW.W_gtI, GW.W_geI, GW.W_idxT0, GW.W_idxT1, GW.W_idxT2, GW.items_t, GW.items_l, GW.W_zipTT, GW.W_zipLL, GW.ex_some, GW.isi_t_int, GW.isi_t_bool, GW.isi_t_str, GW.isi_t_tup, GW.isi_t_lst, GW.isi_t_lt, GW.isi_l_int, GW.isi_l_bool, GW.isi_l_str, GW.isi_l_tup, GW.isi_l_lst, GW.isi_l_lt, GW.isi_i_int, GW.isi_i_bool, GW.isi_i_str, GW.isi_i_tup, GW.isi_i_lst, GW.isi_i_lt, GW.isi_b_int, GW.isi_b_bool, GW.isi_b_str, GW.isi_b_tup, GW.isi_b_lst, GW.isi_b_lt, GW.isi_s_int, GW.isi_s_bool, GW.isi_s_str, GW.isi_s_tup, GW.isi_s_lst, GW.isi_s_lt, GW.isi_n_int, GW.isi_n_bool, GW.isi_n_str, GW.isi_n_tup, GW.isi_n_lst, GW.isi_n_lt, GW.om_call, GW.om_fu, GW.om_nf, GW.om_nc, GW.om_sub, GW.start0, List.set_cons_zero, List.set_cons_succ, List.map_cons, List.map_nil, List.length_cons, List.length_nil, List.replicate, List.cons_append, List.nil_append, Nat.reduceAdd, Nat.reduceSub, Nat.reduceLeDiff, true_and, and_true, Bool.not_true, Bool.not_false, Bool.false_eq_true, if_true, if_false, ite_true, ite_false, decide_true, decide_false, $[$ls],*])
namespace GW
open PySem
theorem WF_cut {f : Fl} {N : Enm → Store → Prop} {R : Val → Store → Prop} {Y : Nat → List Val → Enm → Store → Prop} (M : Enm → Store → Prop) (h : WF f M R Y) (k : ∀ en S, M en S → N en S) : WF f N R Y := h.mono k (fun _ _ h => h) (fun _ _ _ _ h => h)
theorem W_slcT_1 {xs : List Val} {S : Store} {Q : Val → Store → Prop} {X : Xt} : W (slcV (.tup xs) (some 1) none S) Q X = Q (.tup (xs.drop 1)) S := W_slcT_from (k := 1)
/-- how many turns a law makes -/
theorem turns_nat (k n : Nat) (hk : k ≤ 64) : ∃ m : Nat, max 2 (min (k : Int) (n : Int)) = (m : Int) ∧ m < 4611686018427387904 := ⟨(max 2 (min (k : Int) (n : Int))).toNat, by omega, by omega⟩
theorem zero_row {k : Nat} (h1 : 1 ≤ k) (h2 : k ≤ 12) : IsRow (List.replicate k 0) 1 := ⟨by simpa using h1, by simpa using h2, by decide, gcdL_rep k 1 (by decide)⟩
theorem zero_bd (k m : Nat) (hm : 1 ≤ m) : Bdd m (List.replicate k 0) 1 := ⟨fun x hx => by rw [(List.mem_replicate.mp hx).2]; exact Nat.pow_pos (by decide), by
  have : (2 : Nat) ^ 1 ≤ 2 ^ m := Nat.pow_le_pow_right (by decide) hm
  show 1 < 2 ^ m
  omega⟩
theorem rep_int (k : Nat) : List.replicate k (Val.int 0) = (List.replicate k 0).map .int := by simp
end GW
set_option exponentiation.threshold 20000
/-! Core 47: tables. -/
namespace GW
open PySem
/-- short_table: 0 rows 1 bottom 2 by 3 row 4 number -/
-- np nn = 2 5
def L_short_table (c_common_of : Nat) : Cs := (.cons (.set 2 (.var 1))
  (.cons (.forr (.one 3) (.val (.var 0)) (.cons (.set 2 (.call c_common_of (.cons (.var 3) (.cons (.var 2) .nil))))
    .nil))
  (.cons (.ret (.tpd (.cons (.blt .tuple (.cons (.lc false (.one 3) (.val (.var 0)) .nil (.blt .tuple (.cons (.lc false (.one 4) (.val (.var 3)) .nil (.bin .div (.var 4) (.var 2))) .nil))) .nil)) (.cons (.bin .div (.var 1) (.var 2)) .nil))))
  .nil)))
/-- are_rows: 0 thing 1 row -/
-- np nn = 1 2
def L_are_rows (c_are_numbers : Nat) : Cs := (.cons (.ife (.or (.not (.isi (.var 0) ["tuple"])) (.or (.not (.chn .le .le (.cst (.int 1)) (.blt .len (.cons (.var 0) .nil)) (.glo "MOST" (.int 12)))) (.not (.blt .all (.cons (.lc false (.one 1) (.val (.var 0)) .nil (.call c_are_numbers (.cons (.var 1) .nil))) .nil))))) (.cons (.ret (.cst (.bl false)))
    .nil) .nil)
  (.cons (.ret (.blt .all (.cons (.lc false (.one 1) (.val (.var 0)) .nil (.cmp .eq (.blt .len (.cons (.var 1) .nil)) (.blt .len (.cons (.idx (.var 0) (.cst (.int 0))) .nil)))) .nil)))
  .nil))
/-- is_table: 0 thing -/
-- np nn = 1 1
def L_is_table (c_are_rows c_is_number c_short_table : Nat) : Cs := (.cons (.ife (.or (.not (.isi (.var 0) ["tuple"])) (.or (.cmp .ne (.blt .len (.cons (.var 0) .nil)) (.cst (.int 2))) (.or (.not (.call c_are_rows (.cons (.idx (.var 0) (.cst (.int 0))) .nil))) (.not (.call c_is_number (.cons (.idx (.var 0) (.cst (.int 1))) .nil)))))) (.cons (.ret (.cst (.bl false)))
    .nil) .nil)
  (.cons (.ret (.and (.cmp .gt (.idx (.var 0) (.cst (.int 1))) (.cst (.int 0))) (.cmp .eq (.call c_short_table (.cons (.idx (.var 0) (.cst (.int 0))) (.cons (.idx (.var 0) (.cst (.int 1))) .nil))) (.var 0))))
  .nil))
/-- need_alike: 0 one 1 other -/
-- np nn = 2 2
def L_need_alike (c_need_table k_4 : Nat) : Cs := (.cons (.exp (.call c_need_table (.cons (.var 0) .nil)))
  (.cons (.exp (.call c_need_table (.cons (.var 1) .nil)))
  (.cons (.ife (.or (.cmp .ne (.blt .len (.cons (.idx (.var 0) (.cst (.int 0))) .nil)) (.blt .len (.cons (.idx (.var 1) (.cst (.int 0))) .nil))) (.cmp .ne (.blt .len (.cons (.idx (.idx (.var 0) (.cst (.int 0))) (.cst (.int 0))) .nil)) (.blt .len (.cons (.idx (.idx (.var 1) (.cst (.int 0))) (.cst (.int 0))) .nil)))) (.cons (.rai k_4 (.cons (.tpd (.cons (.var 0) (.cons (.var 1) .nil))) .nil))
    .nil) .nil)
  .nil)))
/-- plus_tables: 0 one 1 other 2 rows 3 mine 4 theirs 5 here 6 there -/
-- np nn = 2 7
def L_plus_tables (c_need_alike c_short_table : Nat) : Cs := (.cons (.exp (.call c_need_alike (.cons (.var 0) (.cons (.var 1) .nil))))
  (.cons (.set 2 (.lsd true .nil))
  (.cons (.forr (.tup [3, 4]) (.zip (.idx (.var 0) (.cst (.int 0))) (.idx (.var 1) (.cst (.int 0)))) (.cons (.exp (.mth .append (.var 2) (.cons (.lc false (.tup [5, 6]) (.zip (.var 3) (.var 4)) .nil (.bin .add (.bin .mul (.var 5) (.idx (.var 1) (.cst (.int 1)))) (.bin .mul (.var 6) (.idx (.var 0) (.cst (.int 1)))))) .nil)))
    .nil))
  (.cons (.ret (.call c_short_table (.cons (.var 2) (.cons (.bin .mul (.idx (.var 0) (.cst (.int 1))) (.idx (.var 1) (.cst (.int 1)))) .nil))))
  .nil))))
/-- minus_tables: 0 one 1 other 2 rows 3 mine 4 theirs 5 here 6 there -/
-- np nn = 2 7
def L_minus_tables (c_need_alike c_short_table : Nat) : Cs := (.cons (.exp (.call c_need_alike (.cons (.var 0) (.cons (.var 1) .nil))))
  (.cons (.set 2 (.lsd true .nil))
  (.cons (.forr (.tup [3, 4]) (.zip (.idx (.var 0) (.cst (.int 0))) (.idx (.var 1) (.cst (.int 0)))) (.cons (.exp (.mth .append (.var 2) (.cons (.lc false (.tup [5, 6]) (.zip (.var 3) (.var 4)) .nil (.bin .sub (.bin .mul (.var 5) (.idx (.var 1) (.cst (.int 1)))) (.bin .mul (.var 6) (.idx (.var 0) (.cst (.int 1)))))) .nil)))
    .nil))
  (.cons (.ret (.call c_short_table (.cons (.var 2) (.cons (.bin .mul (.idx (.var 0) (.cst (.int 1))) (.idx (.var 1) (.cst (.int 1)))) .nil))))
  .nil))))
/-- columns_of: 0 table 1 at 2 row -/
-- np nn = 1 3
def L_columns_of : Cs := (.cons (.ret (.lc false (.one 1) (.rng1 (.blt .len (.cons (.idx (.idx (.var 0) (.cst (.int 0))) (.cst (.int 0))) .nil))) .nil (.blt .tuple (.cons (.lc false (.one 2) (.val (.idx (.var 0) (.cst (.int 0)))) .nil (.idx (.var 2) (.var 1))) .nil))))
  .nil)
/-- sum_of: 0 one 1 other 2 mine 3 theirs -/
-- np nn = 2 4
def L_sum_of : Cs := (.cons (.ret (.blt .sum (.cons (.lc false (.tup [2, 3]) (.zip (.var 0) (.var 1)) .nil (.bin .mul (.var 2) (.var 3))) .nil)))
  .nil)
/-- product_of: 0 one 1 other 2 columns 3 row 4 column -/
-- np nn = 2 5
def L_product_of (c_need_table c_columns_of c_short_table c_sum_of k_4 : Nat) : Cs := (.cons (.exp (.call c_need_table (.cons (.var 0) .nil)))
  (.cons (.exp (.call c_need_table (.cons (.var 1) .nil)))
  (.cons (.ife (.cmp .ne (.blt .len (.cons (.idx (.idx (.var 0) (.cst (.int 0))) (.cst (.int 0))) .nil)) (.blt .len (.cons (.idx (.var 1) (.cst (.int 0))) .nil))) (.cons (.rai k_4 (.cons (.tpd (.cons (.var 0) (.cons (.var 1) .nil))) .nil))
    .nil) .nil)
  (.cons (.set 2 (.call c_columns_of (.cons (.var 1) .nil)))
  (.cons (.ret (.call c_short_table (.cons (.lc false (.one 3) (.val (.idx (.var 0) (.cst (.int 0)))) .nil (.lc false (.one 4) (.val (.var 2)) .nil (.call c_sum_of (.cons (.var 3) (.cons (.var 4) .nil))))) (.cons (.bin .mul (.idx (.var 0) (.cst (.int 1))) (.idx (.var 1) (.cst (.int 1)))) .nil))))
  .nil)))))
/-- flipped_table: 0 table -/
-- np nn = 1 1
def L_flipped_table (c_need_table c_columns_of : Nat) : Cs := (.cons (.exp (.call c_need_table (.cons (.var 0) .nil)))
  (.cons (.ret (.tpd (.cons (.blt .tuple (.cons (.call c_columns_of (.cons (.var 0) .nil)) .nil)) (.cons (.idx (.var 0) (.cst (.int 1))) .nil))))
  .nil))
/-- times_table: 0 ratio 1 table 2 row 3 number -/
-- np nn = 2 4
def L_times_table (c_need_ratio c_need_table c_short_table : Nat) : Cs := (.cons (.exp (.call c_need_ratio (.cons (.var 0) .nil)))
  (.cons (.exp (.call c_need_table (.cons (.var 1) .nil)))
  (.cons (.ret (.call c_short_table (.cons (.lc false (.one 2) (.val (.idx (.var 1) (.cst (.int 0)))) .nil (.lc false (.one 3) (.val (.var 2)) .nil (.bin .mul (.var 3) (.idx (.var 0) (.cst (.int 0)))))) (.cons (.bin .mul (.idx (.var 1) (.cst (.int 1))) (.idx (.var 0) (.cst (.int 1)))) .nil))))
  .nil)))
/-- applied_to: 0 table 1 row 2 one -/
-- np nn = 2 3
def L_applied_to (c_need_table c_need_row c_short_row c_sum_of k_4 : Nat) : Cs := (.cons (.exp (.call c_need_table (.cons (.var 0) .nil)))
  (.cons (.exp (.call c_need_row (.cons (.var 1) .nil)))
  (.cons (.ife (.cmp .ne (.blt .len (.cons (.idx (.idx (.var 0) (.cst (.int 0))) (.cst (.int 0))) .nil)) (.blt .len (.cons (.idx (.var 1) (.cst (.int 0))) .nil))) (.cons (.rai k_4 (.cons (.tpd (.cons (.var 0) (.cons (.var 1) .nil))) .nil))
    .nil) .nil)
  (.cons (.ret (.call c_short_row (.cons (.lc false (.one 2) (.val (.idx (.var 0) (.cst (.int 0)))) .nil (.call c_sum_of (.cons (.var 2) (.cons (.idx (.var 1) (.cst (.int 0))) .nil)))) (.cons (.bin .mul (.idx (.var 0) (.cst (.int 1))) (.idx (.var 1) (.cst (.int 1)))) .nil))))
  .nil))))
/-- outer_rows: 0 one 1 other 2 mine 3 theirs -/
-- np nn = 2 4
def L_outer_rows (c_need_row c_short_table : Nat) : Cs := (.cons (.exp (.call c_need_row (.cons (.var 0) .nil)))
  (.cons (.exp (.call c_need_row (.cons (.var 1) .nil)))
  (.cons (.ret (.call c_short_table (.cons (.lc false (.one 2) (.val (.idx (.var 0) (.cst (.int 0)))) .nil (.lc false (.one 3) (.val (.idx (.var 1) (.cst (.int 0)))) .nil (.bin .mul (.var 2) (.var 3)))) (.cons (.bin .mul (.idx (.var 0) (.cst (.int 1))) (.idx (.var 1) (.cst (.int 1)))) .nil))))
  .nil)))
/-- is_mirrored: 0 table -/
-- np nn = 1 1
def L_is_mirrored (c_need_table c_columns_of : Nat) : Cs := (.cons (.exp (.call c_need_table (.cons (.var 0) .nil)))
  (.cons (.ret (.cmp .eq (.blt .tuple (.cons (.call c_columns_of (.cons (.var 0) .nil)) .nil)) (.idx (.var 0) (.cst (.int 0)))))
  .nil))
/-- _law_flat: 0 _law_rows 1 _law_bottom 2 _law_by 3 _law_row_here 4 _law_number_here -/
-- np nn = 2 5
def L_l_flat (c_l_common : Nat) : Cs := (.cons (.set 2 (.var 1))
  (.cons (.forr (.one 3) (.val (.var 0)) (.cons (.forr (.one 4) (.val (.var 3)) (.cons (.set 2 (.call c_l_common (.cons (.var 2) (.cons (.var 4) .nil))))
      .nil))
    .nil))
  (.cons (.ret (.tpd (.cons (.blt .tuple (.cons (.lc false (.one 3) (.val (.var 0)) .nil (.blt .tuple (.cons (.lc false (.one 4) (.val (.var 3)) .nil (.bin .div (.var 4) (.var 2))) .nil))) .nil)) (.cons (.bin .div (.var 1) (.var 2)) .nil))))
  .nil)))
/-- _law_table: 0 _law_purse_here 1 _law_many 2 _law_wide 3 _law_bottom 4 _law_rows 5 _law_k 6 _law_j -/
-- np nn = 3 7
def L_l_table (c_l_number c_l_take c_l_flat : Nat) : Cs := (.cons (.set 3 (.bin .add (.cst (.int 1)) (.bin .mod (.blt .abs (.cons (.call c_l_number (.cons (.var 0) .nil)) .nil)) (.idx (.lsd false (.cons (.cst (.int 1)) (.cons (.cst (.int 2)) (.cons (.cst (.int 4)) (.cons (.cst (.int 100)) .nil))))) (.call c_l_take (.cons (.var 0) (.cons (.cst (.int 4)) .nil)))))))
  (.cons (.set 4 (.lsd true .nil))
  (.cons (.forr (.one 5) (.rng1 (.var 1)) (.cons (.exp (.mth .append (.var 4) (.cons (.lc false (.one 6) (.rng1 (.var 2)) .nil (.bin .mul (.call c_l_number (.cons (.var 0) .nil)) (.idx (.lsd false (.cons (.cst (.int 0)) (.cons (.cst (.int 1)) (.cons (.cst (.int 1)) (.cons (.var 3) .nil))))) (.call c_l_take (.cons (.var 0) (.cons (.cst (.int 4)) .nil)))))) .nil)))
    .nil))
  (.cons (.ret (.call c_l_flat (.cons (.var 4) (.cons (.var 3) .nil))))
  .nil))))
/-- _law_is_table: 0 _law_thing 1 _law_row_here -/
-- np nn = 1 2
def L_l_is_table (c_l_is_number c_l_is_numbers c_l_flat : Nat) : Cs := (.cons (.ife (.or (.not (.isi (.var 0) ["tuple"])) (.or (.cmp .ne (.blt .len (.cons (.var 0) .nil)) (.cst (.int 2))) (.not (.call c_l_is_number (.cons (.idx (.var 0) (.cst (.int 1))) .nil))))) (.cons (.ret (.cst (.bl false)))
    .nil) .nil)
  (.cons (.ife (.or (.not (.isi (.idx (.var 0) (.cst (.int 0))) ["tuple"])) (.not (.chn .le .le (.cst (.int 1)) (.blt .len (.cons (.idx (.var 0) (.cst (.int 0))) .nil)) (.cst (.int 12))))) (.cons (.ret (.cst (.bl false)))
    .nil) .nil)
  (.cons (.ife (.cmp .ne (.lc false (.one 1) (.val (.idx (.var 0) (.cst (.int 0)))) (.cons (.not (.call c_l_is_numbers (.cons (.var 1) .nil))) .nil) (.var 1)) (.lsd false .nil)) (.cons (.ret (.cst (.bl false)))
    .nil) .nil)
  (.cons (.ife (.cmp .ne (.lc false (.one 1) (.val (.idx (.var 0) (.cst (.int 0)))) (.cons (.cmp .ne (.blt .len (.cons (.var 1) .nil)) (.blt .len (.cons (.idx (.idx (.var 0) (.cst (.int 0))) (.cst (.int 0))) .nil))) .nil) (.var 1)) (.lsd false .nil)) (.cons (.ret (.cst (.bl false)))
    .nil) .nil)
  (.cons (.ret (.and (.cmp .gt (.idx (.var 0) (.cst (.int 1))) (.cst (.int 0))) (.cmp .eq (.call c_l_flat (.cons (.idx (.var 0) (.cst (.int 0))) (.cons (.idx (.var 0) (.cst (.int 1))) .nil))) (.var 0))))
  .nil)))))
def tabV (rs : List (List Int)) (b : Int) : Val := .tup [.tup (rs.map tI), .int b]
def gcdT (rs : List (List Int)) (b : Int) : Int := rs.foldl (fun g r => gcdL r g) b
theorem gcdT_eq (rs : List (List Int)) (b : Int) : gcdT rs b = gcdL rs.flatten b := by
  induction rs generalizing b with
  | nil => rfl
  | cons r rs ih =>
    show gcdT rs (gcdL r b) = gcdL (r ++ rs.flatten) b
    rw [ih]
    unfold gcdL
    rw [List.foldl_append]
def cutT (g : Int) (rs : List (List Int)) : List (List Int) := rs.map fun r => r.map fun x => x.fdiv g
def shortT (rs : List (List Int)) (b : Int) : Val := tabV (cutT (gcdL rs.flatten b) rs) (b.fdiv (gcdL rs.flatten b))
theorem cutT_flat (g : Int) (rs : List (List Int)) : (cutT g rs).flatten = rs.flatten.map fun x => x.fdiv g := by
  unfold cutT
  rw [← List.map_flatten]
structure IsTab (rs : List (List Int)) (b : Int) (w : Nat) : Prop where
  lo : 1 ≤ rs.length
  hi : rs.length ≤ 12
  wlo : 1 ≤ w
  whi : w ≤ 12
  wd : ∀ r ∈ rs, r.length = w
  pos : 0 < b
  low : gcdL rs.flatten b = 1
theorem shortT_is {rs : List (List Int)} {b : Int} {w k : Nat} (h1 : 1 ≤ rs.length) (h2 : rs.length ≤ 12) (w1 : 1 ≤ w) (w2 : w ≤ 12) (hw : ∀ r ∈ rs, r.length = w) (hb : 0 < b) (hk : Bdd k rs.flatten b) : ∃ ms c, shortT rs b = tabV ms c ∧ IsTab ms c w ∧ Bdd k ms.flatten c ∧ ms.length = rs.length := by
  obtain ⟨ms, c, e, _, _, c0, g1, _, cb, sz⟩ := short_parts rs.flatten hb
  unfold shortV rowV at e
  simp only [Val.tup.injEq, List.cons.injEq, Val.int.injEq, and_true] at e
  obtain ⟨e1, e2⟩ := e
  have e1' : (cutT (gcdL rs.flatten b) rs).flatten = ms := by
    rw [cutT_flat]
    have := congrArg (List.map intOf) e1
    rwa [intOf_map, intOf_map] at this
  refine ⟨cutT (gcdL rs.flatten b) rs, c, by unfold shortT; rw [e2], ⟨by simp [cutT, h1], by simp [cutT, h2], w1, w2, ?_, c0, by rw [e1']; exact g1⟩, by rw [e1']; exact ⟨sz k hk.ns, by have := hk.b; omega⟩, by simp [cutT]⟩
  intro r hr
  obtain ⟨s, hs, rfl⟩ := List.mem_map.mp hr
  rw [List.length_map]; exact hw s hs
theorem shortT_same {rs : List (List Int)} {b : Int} (h : gcdL rs.flatten b = 1) : shortT rs b = tabV rs b := by
  unfold shortT cutT
  rw [h, Int.fdiv_one]
  congr 1
  conv => rhs; rw [← List.map_id rs]
  refine List.map_congr_left fun r hr => ?_
  show (r.map fun x => x.fdiv 1) = r
  conv => rhs; rw [← List.map_id r]
  exact List.map_congr_left fun x _ => Int.fdiv_one x
/-- the other way round -/
theorem gcd_of_same {rs : List (List Int)} {b : Int} (hb : 0 < b) (h : b.fdiv (gcdL rs.flatten b) = b) : gcdL rs.flatten b = 1 := by
  have e : b.fdiv (gcdL rs.flatten b) * gcdL rs.flatten b = b := Int.fdiv_mul_cancel (gcdL_dvd rs.flatten b).1
  rw [h] at e
  have : b * gcdL rs.flatten b = b * 1 := by rw [e, Int.mul_one]
  exact Int.eq_of_mul_eq_mul_left (by omega) this
/-! which things are tables -/
def isRws : Val → Bool
  | .tup rs => decide (1 ≤ rs.length) && decide (rs.length ≤ 12) && rs.all isNums && (rs.all fun r => match r, rs with
    | .tup xs, .tup ys :: _ => decide (xs.length = ys.length)
    | _, _ => false)
  | _ => false
def intsOf : Val → List Int
  | .tup xs => xs.map intOf
  | _ => []
def isTab : Val → Bool
  | .tup [.tup rs, .int b] => isRws (.tup rs) && decide (0 < b) && decide (gcdL (rs.map intsOf).flatten b = 1)
  | _ => false
theorem intsOf_map (rs : List (List Int)) : (rs.map tI).map intsOf = rs := by
  rw [List.map_map]
  conv => rhs; rw [← List.map_id rs]
  exact List.map_congr_left fun r _ => intOf_map r
theorem isNums_tI {r : List Int} (h1 : 1 ≤ r.length) (h2 : r.length ≤ 12) : isNums (tI r) = true := by
  simp only [isNums, tI, List.length_map, all_numb, Bool.and_true, Bool.and_eq_true, decide_eq_true_eq]
  exact ⟨h1, h2⟩
theorem isRws_iff {xs : List Val} : isRws (.tup xs) = true ↔ ∃ (rs : List (List Int)) (w : Nat), xs = rs.map tI ∧ 1 ≤ rs.length ∧ rs.length ≤ 12 ∧ 1 ≤ w ∧ w ≤ 12 ∧ ∀ r ∈ rs, r.length = w := by
  constructor
  · intro h
    simp only [isRws, Bool.and_eq_true, decide_eq_true_eq] at h
    obtain ⟨⟨⟨h1, h2⟩, h3⟩, h4⟩ := h
    have hx : ∀ x ∈ xs, ∃ r : List Int, x = tI r ∧ 1 ≤ r.length ∧ r.length ≤ 12 := fun x hx => by
      have := List.all_eq_true.mp h3 x hx
      have ht : ∃ ys, x = .tup ys := by cases x <;> first | exact ⟨_, rfl⟩ | cases this
      obtain ⟨ys, rfl⟩ := ht
      obtain ⟨ns, rfl, a, b⟩ := isNums_row this
      exact ⟨ns, rfl, a, b⟩
    have ex : xs = (xs.map intsOf).map tI := by
      rw [List.map_map]
      conv => lhs; rw [← List.map_id xs]
      refine List.map_congr_left fun x hx' => ?_
      obtain ⟨r, rfl, _⟩ := hx x hx'
      show tI r = tI (intsOf (tI r))
      rw [show intsOf (tI r) = r from intOf_map r]
    match xs, h1, hx, h4, ex, h2 with
    | x :: xs', _, hx, h4, ex, h2 =>
      obtain ⟨r0, rfl, a0, b0⟩ := hx x (List.mem_cons_self ..)
      refine ⟨(tI r0 :: xs').map intsOf, r0.length, ex, by simp, by simpa using h2, a0, b0, fun r hr => ?_⟩
      obtain ⟨y, hy, rfl⟩ := List.mem_map.mp hr
      obtain ⟨s, rfl, _⟩ := hx y hy
      have := List.all_eq_true.mp h4 _ hy
      simp only [tI, decide_eq_true_eq, List.length_map] at this
      rw [show intsOf (tI s) = s from intOf_map s]
      exact this
  · rintro ⟨rs, w, rfl, h1, h2, w1, w2, hw⟩
    simp only [isRws, Bool.and_eq_true, decide_eq_true_eq, List.length_map]
    refine ⟨⟨⟨h1, h2⟩, ?_⟩, ?_⟩
    · refine List.all_eq_true.mpr fun x hx => ?_
      obtain ⟨r, hr, rfl⟩ := List.mem_map.mp hx
      exact isNums_tI (by rw [hw r hr]; exact w1) (by rw [hw r hr]; exact w2)
    · refine List.all_eq_true.mpr fun x hx => ?_
      obtain ⟨r, hr, rfl⟩ := List.mem_map.mp hx
      match rs, hw, hr with
      | r0 :: rs', hw, hr =>
        simp only [List.map_cons, tI, decide_eq_true_eq, List.length_map]
        rw [hw r hr, hw r0 (List.mem_cons_self ..)]
theorem isTab_iff {v : Val} : isTab v = true ↔ ∃ (rs : List (List Int)) (b : Int) (w : Nat), v = tabV rs b ∧ IsTab rs b w := by
  constructor
  · intro h
    unfold isTab at h
    split at h
    · rename_i xs b
      simp only [Bool.and_eq_true, decide_eq_true_eq] at h
      obtain ⟨⟨h1, h2⟩, h3⟩ := h
      obtain ⟨rs, w, rfl, a1, a2, a3, a4, a5⟩ := isRws_iff.mp h1
      rw [intsOf_map] at h3
      exact ⟨rs, b, w, rfl, a1, a2, a3, a4, a5, h2, h3⟩
    · cases h
  · rintro ⟨rs, b, w, rfl, h⟩
    simp only [tabV, isTab, intsOf_map, Bool.and_eq_true, decide_eq_true_eq]
    exact ⟨⟨isRws_iff.mpr ⟨rs, w, rfl, h.lo, h.hi, h.wlo, h.whi, h.wd⟩, h.pos⟩, h.low⟩
theorem IsTab.is {rs : List (List Int)} {b : Int} {w : Nat} (h : IsTab rs b w) : isTab (tabV rs b) = true := isTab_iff.mpr ⟨rs, b, w, rfl, h⟩
theorem okv_tab {S : Store} {rs : List (List Int)} {b : Int} (h : Bdd 9000 rs.flatten b) : Okv S (tabV rs b) := by
  refine ⟨?_, h.b, trivial⟩
  refine okvs_iff.mpr fun x hx => ?_
  obtain ⟨r, hr, rfl⟩ := List.mem_map.mp hx
  refine okvs_iff.mpr fun y hy => ?_
  obtain ⟨z, hz, rfl⟩ := List.mem_map.mp hy
  exact h.ns z (List.mem_flatten.mpr ⟨r, hr, hz⟩)
theorem tab_okv {S : Store} {rs : List (List Int)} {b : Int} (h : Okv S (tabV rs b)) : Bdd 9000 rs.flatten b := by
  obtain ⟨h1, h2, _⟩ := h
  refine ⟨fun x hx => ?_, h2⟩
  obtain ⟨r, hr, hx⟩ := List.mem_flatten.mp hx
  have := okvs_iff.mp h1 _ (List.mem_map_of_mem hr)
  exact okvs_iff.mp this _ (List.mem_map_of_mem hx)
/-- rows of numbers, told as tuples or lists, in a tuple or a list -/
structure Rws (S : Store) (v : Val) (rs : List (List Int)) (g : List Int → Val) : Prop where
  nu : ∀ r, Nums (g r) r
  it : items S v = some (rs.map g)
  lv : live S [v] [rs.map g]
theorem rws_tt (S : Store) (rs : List (List Int)) : Rws S (.tup (rs.map tI)) rs tI := ⟨fun r => .inl rfl, rfl, live_t _ _ _⟩
theorem rws_ll (S : Store) (rs : List (List Int)) : Rws S (.lst (rs.map lI)) rs lI := ⟨fun r => .inr rfl, rfl, live_l _ _ _⟩
theorem rws_lt (S : Store) (rs : List (List Int)) : Rws S (.lst (rs.map tI)) rs tI := ⟨fun r => .inl rfl, rfl, live_l _ _ _⟩
theorem rws_ref {S : Store} {m : Nat} {rs : List (List Int)} {g : List Int → Val} (hg : ∀ r, Nums (g r) r) (h : S[m]? = some (.lst (rs.map g))) : Rws S (.ref m) rs g := ⟨hg, by unfold items lstI; dsimp only; rw [h], fun p hp => by
  simp only [List.zip_cons_cons, List.zip_nil_right, List.mem_cons, List.not_mem_nil, or_false] at hp
  subst hp
  exact h⟩
def cShortT : Ct := fun f => ∀ (S : Store) (v : Val) (rs : List (List Int)) (g : List Int → Val) (b : Int), Rws S v rs g → rs.length < 900 → (∀ r ∈ rs, r.length < 900) → 0 < b → Bdd 9000 rs.flatten b → f [v, .int b] S = .ok (shortT rs b) S
section
variable {P : Pg} {fu d : Nat}
theorem bdd_row {k : Nat} {rs : List (List Int)} {b : Int} (h : Bdd k rs.flatten b) {r : List Int} (hr : r ∈ rs) : ∀ x ∈ r, x.natAbs < 2 ^ k := fun x hx => h.ns x (List.mem_flatten.mpr ⟨r, hr, hx⟩)
theorem short_table_at {i c : Nat} (h : P.defs[i]? = some ⟨2, 5, L_short_table c⟩) (hc : At P fu d c cCommonOf) : At P fu (d + 1) i cShortT := .mk h fun n hd S v rs g b hv h1 h2 hb hk => by
  refine W.eq ?_
  rw [W_run rfl]
  have g0 := gcdL_pos (ns := rs.flatten) hb
  have dv := div_short hb hk.b g0 (gcdL_le hb)
  simp! [L_short_table, hv.it, ex_some]
  refine WF_for (fun k en T => T = S ∧ ∃ o, en = [some v, some (.int b), some (.int (gcdT (rs.take k) b)), o, none]) ⟨rfl, _, rfl⟩ (fun k en T h => by rw [h.1]; exact hv.lv) ?_ ?_
  · rintro k x en T hk' ⟨rfl, o, rfl⟩
    rw [List.getElem?_map, Option.map_eq_some_iff] at hk'
    obtain ⟨r, hr, rfl⟩ := hk'
    refine ⟨_, rfl, ?_⟩
    simp! [hc n hd T (g r) r (gcdT (rs.take k) b) (hv.nu r) (bdd_row hk (List.mem_of_getElem? hr))]
    rw [List.take_add_one, hr]
    simp [gcdT, List.foldl_append]
  · rintro en T ⟨rfl, o, rfl⟩
    rw [List.length_map, List.take_length, gcdT_eq]
    simp! [hv.it, ex_some]
    refine W_lcA rs g (fun r => tI (r.map fun x => x.fdiv (gcdL rs.flatten b))) hv.lv (by omega) (fun r hr => by simp! [GW.W_ok]) (fun r hr => ?_) ?_
    · simp! [(hv.nu r).items, ex_some]
      refine W_lcA r Val.int (fun x => .int (x.fdiv (gcdL rs.flatten b))) ((hv.nu r).live _ _) (by have := h2 r hr; omega) (fun x hx => by simp! [GW.W_ok]) (fun x hx => by simp! [dv]) ?_
      simp! [List.length_map]
      refine ⟨by have := h2 r hr; omega, ?_⟩
      simp [tI]
    · simp! [dv, List.length_map]
      refine ⟨by omega, ?_⟩
      simp [shortT, tabV, cutT, List.map_map, Function.comp_def]
theorem l_flat_at {i c : Nat} (h : P.defs[i]? = some ⟨2, 5, L_l_flat c⟩) (hf : 2 ^ 9000 ≤ fu) (hc : At P fu d c (cGcd fu)) : At P fu (d + 1) i cShortT := .mk h fun n hd S v rs g b hv h1 h2 hb hk => by
  refine W.eq ?_
  rw [W_run rfl]
  have g0 := gcdL_pos (ns := rs.flatten) hb
  have dv := div_short hb hk.b g0 (gcdL_le hb)
  simp! [L_l_flat, hv.it, ex_some]
  refine WF_for (fun k en T => T = S ∧ ∃ o o', en = [some v, some (.int b), some (.int (gcdT (rs.take k) b)), o, o']) ⟨rfl, _, _, rfl⟩ (fun k en T h => by rw [h.1]; exact hv.lv) ?_ ?_
  · rintro k x en T hk' ⟨rfl, o, o', rfl⟩
    rw [List.getElem?_map, Option.map_eq_some_iff] at hk'
    obtain ⟨r, hr, rfl⟩ := hk'
    refine ⟨_, rfl, ?_⟩
    have hx := bdd_row hk (List.mem_of_getElem? hr)
    simp! [(hv.nu r).items, ex_some]
    refine WF_for (fun m en T' => T' = T ∧ ∃ o', en = [some v, some (.int b), some (.int (gcdL (r.take m) (gcdT (rs.take k) b))), some (g r), o']) ⟨rfl, _, rfl⟩ (fun _ _ _ _ => (hv.nu r).live _ _) ?_ ?_
    · rintro m y en T' hm ⟨rfl, o', rfl⟩
      rw [List.getElem?_map, Option.map_eq_some_iff] at hm
      obtain ⟨z, hz, rfl⟩ := hm
      refine ⟨_, rfl, ?_⟩
      simp! [hc n hd T' _ z (Nat.lt_of_lt_of_le (hx z (List.mem_of_getElem? hz)) hf)]
      rw [List.take_add_one (l := r), hz]
      simp [gcdL, List.foldl_append]
    · rintro en T' ⟨rfl, o', rfl⟩
      rw [List.length_map, List.take_length]
      refine ⟨rfl, some (g r), o', ?_⟩
      rw [List.take_add_one (l := rs), hr]
      simp [gcdT, List.foldl_append]
  · rintro en T ⟨rfl, o, o', rfl⟩
    rw [List.length_map, List.take_length, gcdT_eq]
    simp! [hv.it, ex_some]
    refine W_lcA rs g (fun r => tI (r.map fun x => x.fdiv (gcdL rs.flatten b))) hv.lv (by omega) (fun r hr => by simp! [GW.W_ok]) (fun r hr => ?_) ?_
    · simp! [(hv.nu r).items, ex_some]
      refine W_lcA r Val.int (fun x => .int (x.fdiv (gcdL rs.flatten b))) ((hv.nu r).live _ _) (by have := h2 r hr; omega) (fun x hx => by simp! [GW.W_ok]) (fun x hx => by simp! [dv]) ?_
      simp! [List.length_map]
      refine ⟨by have := h2 r hr; omega, ?_⟩
      simp [tI]
    · simp! [dv, List.length_map]
      refine ⟨by omega, ?_⟩
      simp [shortT, tabV, cutT, List.map_map, Function.comp_def]
end
end GW
set_option exponentiation.threshold 20000
/-! Core 48: tables looked at, columns, sums. -/
namespace GW
open PySem
theorem eq_tab (S : Store) (rs ms : List (List Int)) (b c : Int) : cmpE .eq (tabV rs b) (tabV ms c) S = some (decide (rs = ms) && decide (b = c)) := (tupD (tupD intD)).eqP intD (by decide) (by decide) S rs ms b c
theorem eq_rows (S : Store) (rs ms : List (List Int)) : cmpE .eq (.tup (rs.map tI)) (.tup (ms.map tI)) S = some (decide (rs = ms)) := (tupD intD).eqT (by decide) S rs ms
theorem len_tI (r : List Int) {S : Store} {Q : Val → Store → Prop} {X : Xt} : W (bltV .len [tI r] S) Q X = Q (.int r.length) S := by
  unfold tI
  rw [W_lenT, List.length_map]
/-- the tests of all items at once, nothing laid -/
theorem all_w {S : Store} {Q : Val → Store → Prop} {X : Xt} {xs : List Val} {p : Val → Bool} (h : Q (.bl (xs.all p)) S) : W (bltV .all [.lst (xs.map fun x => Val.bl (p x))] S) Q X := by
  have e : xs.map (fun x => Val.bl (p x)) = (xs.map p).map .bl := by simp
  rw [e, all_bls]
  simpa [List.all_map] using h
section
variable {P : Pg} {fu d : Nat}
theorem are_rows_at {i c : Nat} (h : P.defs[i]? = some ⟨1, 2, L_are_rows c⟩) (hc : At P fu d c (cTest isNums)) : At P fu (d + 1) i (cTest isRws) := .mk h fun n hd S v hv => by
  refine W.eq ?_
  rw [W_run rfl]
  rcases isi_tuple hv with ⟨xs, rfl⟩ | ⟨e, hne⟩
  · simp! [L_are_rows]
    by_cases h1 : 1 ≤ xs.length
    · by_cases h2 : xs.length ≤ 12
      · have c1 : (1 : Int) ≤ xs.length := by omega
        have c2 : (xs.length : Int) ≤ 12 := by omega
        simp! [c1, c2, ex_some]
        refine W_lcV xs (fun x => .bl (isNums x)) (live_t _ _ _) (by omega) (fun x hx => by simp! [GW.W_ok]) (fun x hx => by simp! [hc n hd S x (okvs_iff.mp hv x hx)]) ?_
        simp! [List.length_map]
        refine ⟨by omega, all_w ?_⟩
        cases ha : xs.all isNums with
        | false =>
          simp! [GW.W_ok]
          simp [isRws, ha]
        | true =>
          simp! [GW.W_ok]
          have hx : ∀ x ∈ xs, ∃ r : List Int, x = tI r := fun x hx => by
            have := List.all_eq_true.mp ha x hx
            have ht : ∃ ys, x = .tup ys := by cases x <;> first | exact ⟨_, rfl⟩ | cases this
            obtain ⟨ys, rfl⟩ := ht
            obtain ⟨ns, rfl, _⟩ := isNums_row this
            exact ⟨ns, rfl⟩
          match xs, h1, h2, hx, ha with
          | x0 :: xs', _, h2, hx, ha =>
            obtain ⟨r0, rfl⟩ := hx x0 (List.mem_cons_self ..)
            refine W_lcV (tI r0 :: xs') (fun x => .bl (match x with | .tup ys => decide (ys.length = r0.length) | _ => false)) (live_t _ _ _) (by omega) (fun x hx => by simp! [GW.W_ok]) (fun x hx' => ?_) ?_
            · obtain ⟨r, rfl⟩ := hx x hx'
              simp! [len_tI]
              simp [tI]
              omega
            · generalize hL : tI r0 :: xs' = L at h2 hx ha ⊢
              simp! [List.length_map]
              refine ⟨by omega, all_w ?_⟩
              subst hL
              refine ⟨?_, rfl⟩
              simp only [isRws, ha]
              have e1 : decide (1 ≤ (tI r0 :: xs').length) = true := by simp
              have e2 : decide ((tI r0 :: xs').length ≤ 12) = true := by simpa using h2
              rw [e1, e2]
              simp only [Bool.and_true, Bool.true_and, Val.bl.injEq]
              have : ∀ l : List Val, (∀ x ∈ l, ∃ r : List Int, x = tI r) → (l.all fun x => match x with | .tup ys => decide (ys.length = r0.length) | _ => false) = (l.all fun r => match r, (tI r0 :: xs') with
                | .tup xs, .tup ys :: _ => decide (xs.length = ys.length)
                | _, _ => false) := fun l hl => by
                induction l with
                | nil => rfl
                | cons x l ih =>
                  obtain ⟨r, rfl⟩ := hl x (List.mem_cons_self ..)
                  rw [List.all_cons, List.all_cons, ih fun y hy => hl y (List.mem_cons_of_mem _ hy)]
                  congr 1
                  simp [tI]
              exact this _ hx
      · have c1 : (1 : Int) ≤ xs.length := by omega
        have c2 : ¬ (xs.length : Int) ≤ 12 := by omega
        simp! [c1, c2]
        simp [isRws, h2]
    · have c1 : ¬ (1 : Int) ≤ xs.length := by omega
      simp! [c1]
      simp [isRws, h1]
  · simp! [L_are_rows, e]
    cases v <;> first | rfl | exact absurd rfl (hne _)
theorem is_table_at {i an nu sh : Nat} (h : P.defs[i]? = some ⟨1, 1, L_is_table an nu sh⟩) (ha : At P fu d an (cTest isRws)) (hn : At P fu d nu (cTest numb)) (hs : At P fu d sh cShortT) : At P fu (d + 1) i (cTest isTab) := .mk h fun n hd S v hv => by
  refine W.eq ?_
  rw [W_run rfl]
  rcases isi_tuple hv with ⟨xs, rfl⟩ | ⟨e, hne⟩
  · match xs, hv with
    | [], _ => simp! [L_is_table]; simp [isTab]
    | [a], _ => simp! [L_is_table]; simp [isTab]
    | a :: b :: c :: r, _ => simp! [L_is_table]; simp [isTab]; rw [if_neg (by omega)]; intro h; omega
    | [a, b], hv =>
      obtain ⟨ha', hb, _⟩ := hv
      have ea := ha n hd S a ha'
      have eb := hn n hd S b hb
      cases na : isRws a with
      | false =>
        simp! [L_is_table, ea, na]
        cases a <;> cases b <;> simp_all [isTab]
      | true =>
        cases nb : numb b with
        | false =>
          simp! [L_is_table, ea, eb, na, nb]
          cases b <;> cases a <;> simp_all [isTab, numb]
        | true =>
          obtain ⟨y, rfl⟩ := numb_int nb
          have : ∃ xs, a = .tup xs := by cases a <;> first | exact ⟨_, rfl⟩ | cases na
          obtain ⟨xs, rfl⟩ := this
          obtain ⟨rs, w, rfl, l1, l2, w1, w2, hw⟩ := isRws_iff.mp na
          have bd : Bdd 9000 rs.flatten y := tab_okv (S := S) ⟨ha', hb, trivial⟩
          simp! [L_is_table, ea, eb, na, nb]
          by_cases hy : 0 < y
          · have ec := hs n hd S (.tup (rs.map tI)) rs tI y (rws_tt S rs) (by omega) (fun r hr => by rw [hw r hr]; omega) hy bd
            have eq : cmpE .eq (shortT rs y) (.tup [.tup (rs.map tI), .int y]) S = some (decide (gcdL rs.flatten y = 1)) := by
              by_cases hg : gcdL rs.flatten y = 1
              · rw [shortT_same hg]
                have := eq_tab S rs rs y y
                unfold tabV at *
                rw [this]
                simp [hg]
              · have := eq_tab S (cutT (gcdL rs.flatten y) rs) rs (y.fdiv (gcdL rs.flatten y)) y
                unfold shortT
                unfold tabV at *
                rw [this]
                have : ¬ y.fdiv (gcdL rs.flatten y) = y := fun z => hg (gcd_of_same hy z)
                simp [hg, this]
            simp! [hy, ec, eq]
            simp only [isTab, na, hy, intsOf_map]
            simp
          · simp! [hy]
            simp [isTab, hy]
  · simp! [L_is_table, e]
    cases v <;> first | rfl | exact absurd rfl (hne _)
end
/-! columns, sums of products -/
def colsL (rs : List (List Int)) (w : Nat) : List (List Int) := (List.range w).map fun j => rs.map fun r => r.getD j 0
def cCols : Ct := fun f => ∀ (S : Store) (rs : List (List Int)) (b : Int) (w : Nat), 1 ≤ rs.length → rs.length < 900 → w < 900 → (∀ r ∈ rs, r.length = w) → f [tabV rs b] S = .ok (.lst ((colsL rs w).map tI)) S
def cSumOf : Ct := fun f => ∀ (S : Store) (r c : List Int) (k : Nat), k ≤ 10000 → r.length < 900 → (∀ x ∈ r, x.natAbs < 2 ^ k) → (∀ x ∈ c, x.natAbs < 2 ^ k) → f [tI r, tI c] S = .ok (.int (dotI r c)) S
theorem idx_tI {r : List Int} {j : Nat} (h : j < r.length) (S : Store) : idxV (tI r) (.int j) S = .ok (.int (r.getD j 0)) S := by
  have e : (r.map Val.int)[j]? = some (.int (r.getD j 0)) := by
    rw [List.getElem?_map, List.getElem?_eq_getElem h, List.getD_eq_getElem?_getD, List.getElem?_eq_getElem h]
    rfl
  show oV (ixV (r.map .int) j) S = _
  rw [ix_nat e]
  rfl
section
variable {P : Pg} {fu d : Nat}
theorem columns_of_at {i : Nat} (h : P.defs[i]? = some ⟨1, 3, L_columns_of⟩) : At P fu (d + 1) i cCols := .mk h fun n hd S rs b w h1 h2 h3 hw => by
  refine W.eq ?_
  rw [W_run rfl]
  match rs, h1, h2, hw with
  | r0 :: rs', _, h2, hw =>
    have e0 := hw r0 (List.mem_cons_self ..)
    simp! [L_columns_of, tabV, len_tI, e0, W_rng (show w < 4611686018427387904 by omega)]
    have er : rngL 0 w = (List.range w).map fun (j : Nat) => Val.int j := by
      unfold rngL
      simp
    rw [er]
    refine W_lcA (List.range w) (fun (j : Nat) => Val.int j) (fun j => tI ((r0 :: rs').map fun r => r.getD j 0)) (live_nil _) (by simp; omega) (fun j hj => by simp! [GW.W_ok]) (fun j hj => ?_) ?_
    · have hj' : j < w := List.mem_range.mp hj
      simp! [List.map_cons]
      refine W_lcA (r0 :: rs') tI (fun r => .int (r.getD j 0)) (live_t _ _ _) (by omega) (fun r hr => by simp! [GW.W_ok]) (fun r hr => by simp! [idx_tI (r := r) (j := j) (by rw [hw r hr]; exact hj')]) ?_
      simp! [List.length_map]
      refine ⟨by simp only [List.length_cons] at h2; omega, ?_⟩
      simp [tI, Function.comp_def]
    · simp! [List.length_map, List.length_range]
      refine ⟨by omega, ?_⟩
      simp [colsL, Function.comp_def]
theorem sum_of_at {i : Nat} (h : P.defs[i]? = some ⟨2, 4, L_sum_of⟩) : At P fu (d + 1) i cSumOf := .mk h fun n hd S r c k hk hl h1 h2 => by
  refine W.eq ?_
  rw [W_run rfl]
  simp! [L_sum_of, tI, zip_ints]
  refine W_lcG (r.zip c) _ (fun p => .int (p.1 * p.2)) (by first | exact live_nil _ | exact live_ll _ _ _ _ _) (by simp [List.length_zip]; omega) (fun p hp => ⟨_, put2, by simp! [GW.W_ok], ?_⟩) ?_
  · obtain ⟨a1, a2⟩ := mem_zip hp
    simp! [mulOk_p (h1 _ a1) (h2 _ a2) (by omega)]
  · rw [show (r.zip c).map (fun p => Val.int (p.1 * p.2)) = ((r.zip c).map fun p => p.1 * p.2).map .int by simp]
    simp! [sum_ints, List.length_map]
    refine ⟨by simp [List.length_zip]; omega, rfl⟩
end
end GW
set_option exponentiation.threshold 20000
/-! Core 49: tables, reckoned and refused. -/
namespace GW
open PySem
section
variable {S : Store} {Q : Val → Store → Prop} {X : Xt}
theorem tyOk_ref {m : Nat} {zs : List Val} (h : S[m]? = some (.lst zs)) (t : Mth) (ht : t.isL = true) : tyOk t (.ref m) S = true := by
  unfold tyOk lstAt
  rw [if_pos ht]
  dsimp only
  rw [h]
  rfl
theorem mth_append {m : Nat} {zs : List Val} (h : S[m]? = some (.lst zs)) (hz : zs.length < 1000) (y : Val) : mthV .append (.ref m) [y] S = .ok .non (S.set m (.lst (zs ++ [y]))) := by
  unfold mthV lstAt
  rw [if_pos (show Mth.append.isL = true from rfl)]
  dsimp only
  rw [h]
  exact if_pos (Nat.lt_of_lt_of_le hz (by decide))
theorem set_last (S : Store) (o o' : Ob) : (S ++ [o]).set S.length o' = S ++ [o'] := by simp
/-- to the newest list -/
theorem append_new (zs : List Val) (hz : zs.length < 1000) (y : Val) : mthV .append (.ref S.length) [y] (S ++ [.lst zs]) = .ok .non (S ++ [.lst (zs ++ [y])]) := by
  rw [mth_append (at_new S _ []) hz, set_last]
theorem ty_new (zs : List Val) (t : Mth) (ht : t.isL = true) : tyOk t (.ref S.length) (S ++ [.lst zs]) = true := tyOk_ref (at_new S _ []) t ht
theorem zip_tI (rs ms : List (List Int)) : (((rs.map tI).zip (ms.map tI)).map fun p => Val.tup [p.1, p.2]) = (rs.zip ms).map fun p => .tup [tI p.1, tI p.2] := by
  rw [List.zip_map, List.map_map]
  rfl
end
structure cTwoT (kt kf : Nat) (fit : Nat → Nat → Nat → Nat → Bool) (val : List (List Int) → Int → Nat → List (List Int) → Int → Nat → Val) (f : List Val → Store → Res Val) : Prop where
  bad1 : ∀ S u v, Okv S u → isTab u = false → f [u, v] S = .exc kt [u] S
  bad2 : ∀ S u v, Okv S u → Okv S v → isTab u = true → isTab v = false → f [u, v] S = .exc kt [v] S
  nofit : ∀ S rs b w ms c w', IsTab rs b w → IsTab ms c w' → Bdd 9000 rs.flatten b → Bdd 9000 ms.flatten c → fit rs.length w ms.length w' = false → f [tabV rs b, tabV ms c] S = .exc kf [.tup [tabV rs b, tabV ms c]] S
  ok : ∀ S rs b w ms c w', IsTab rs b w → IsTab ms c w' → Bdd 4000 rs.flatten b → Bdd 4000 ms.flatten c → fit rs.length w ms.length w' = true → ∃ T, f [tabV rs b, tabV ms c] S = .ok (val rs b w ms c w') (S ++ T)
def alikeF (a w b w' : Nat) : Bool := decide (a = b) && decide (w = w')
def cAlikeT (kt kf : Nat) : Ct := fun f =>
    (∀ S u v, Okv S u → isTab u = false → f [u, v] S = .exc kt [u] S) ∧ (∀ S u v, Okv S u → Okv S v → isTab u = true → isTab v = false → f [u, v] S = .exc kt [v] S) ∧
    (∀ S rs b w ms c w', IsTab rs b w → IsTab ms c w' → Bdd 9000 rs.flatten b → Bdd 9000 ms.flatten c → f [tabV rs b, tabV ms c] S = if alikeF rs.length w ms.length w' = true then .ok .non S else .exc kf [.tup [tabV rs b, tabV ms c]] S)
def plusT (rs : List (List Int)) (b : Int) (ms : List (List Int)) (c : Int) : List (List Int) := (rs.zip ms).map fun p => plusI p.1 b p.2 c
def minusT (rs : List (List Int)) (b : Int) (ms : List (List Int)) (c : Int) : List (List Int) := (rs.zip ms).map fun p => minusI p.1 b p.2 c
def plusTV (rs : List (List Int)) (b : Int) (_ : Nat) (ms : List (List Int)) (c : Int) (_ : Nat) : Val := shortT (plusT rs b ms c) (b * c)
def minusTV (rs : List (List Int)) (b : Int) (_ : Nat) (ms : List (List Int)) (c : Int) (_ : Nat) : Val := shortT (minusT rs b ms c) (b * c)
theorem IsTab.head {rs : List (List Int)} {b : Int} {w : Nat} (h : IsTab rs b w) : ∃ r t, rs = r :: t ∧ r.length = w := by
  have h1 := h.lo
  match rs, h1, h.wd with
  | r :: t, _, hw => exact ⟨r, t, rfl, hw r (List.mem_cons_self ..)⟩
theorem mem_zipT {rs ms : List (List Int)} {p : List Int × List Int} (h : p ∈ rs.zip ms) : p.1 ∈ rs ∧ p.2 ∈ ms := ⟨(List.of_mem_zip h).1, (List.of_mem_zip h).2⟩
theorem plusT_bd {k : Nat} {rs ms : List (List Int)} {b c : Int} (h : Bdd k rs.flatten b) (q : Bdd k ms.flatten c) : Bdd (k + k + 1) (plusT rs b ms c).flatten (b * c) := ⟨fun x hx => by
  obtain ⟨r, hr, hx⟩ := List.mem_flatten.mp hx
  obtain ⟨p, hp, rfl⟩ := List.mem_map.mp hr
  obtain ⟨h1, h2⟩ := mem_zipT hp
  exact (plus_bd (k := k) (ns := p.1) (ms := p.2) ⟨bdd_row h h1, h.b⟩ ⟨bdd_row q h2, q.b⟩).ns x hx, pow_up (mul_lt h.b q.b) (by omega)⟩
theorem minusT_bd {k : Nat} {rs ms : List (List Int)} {b c : Int} (h : Bdd k rs.flatten b) (q : Bdd k ms.flatten c) : Bdd (k + k + 1) (minusT rs b ms c).flatten (b * c) := ⟨fun x hx => by
  obtain ⟨r, hr, hx⟩ := List.mem_flatten.mp hx
  obtain ⟨p, hp, rfl⟩ := List.mem_map.mp hr
  obtain ⟨h1, h2⟩ := mem_zipT hp
  exact (minus_bd (k := k) (ns := p.1) (ms := p.2) ⟨bdd_row h h1, h.b⟩ ⟨bdd_row q h2, q.b⟩).ns x hx, pow_up (mul_lt h.b q.b) (by omega)⟩
theorem plusT_wd {rs ms : List (List Int)} {b c : Int} {w : Nat} (h : ∀ r ∈ rs, r.length = w) (q : ∀ r ∈ ms, r.length = w) : ∀ r ∈ plusT rs b ms c, r.length = w := fun r hr => by
  obtain ⟨p, hp, rfl⟩ := List.mem_map.mp hr
  obtain ⟨h1, h2⟩ := mem_zipT hp
  rw [plus_len (by rw [h _ h1, q _ h2]), h _ h1]
theorem minusT_wd {rs ms : List (List Int)} {b c : Int} {w : Nat} (h : ∀ r ∈ rs, r.length = w) (q : ∀ r ∈ ms, r.length = w) : ∀ r ∈ minusT rs b ms c, r.length = w := fun r hr => by
  obtain ⟨p, hp, rfl⟩ := List.mem_map.mp hr
  obtain ⟨h1, h2⟩ := mem_zipT hp
  rw [minus_len (by rw [h _ h1, q _ h2]), h _ h1]
theorem plusT_len {rs ms : List (List Int)} {b c : Int} (h : rs.length = ms.length) : (plusT rs b ms c).length = rs.length := by simp [plusT, h]
theorem minusT_len {rs ms : List (List Int)} {b c : Int} (h : rs.length = ms.length) : (minusT rs b ms c).length = rs.length := by simp [minusT, h]
section
variable {P : Pg} {fu d : Nat}
theorem Bdd.okT {k : Nat} {rs : List (List Int)} {b : Int} (h : Bdd k rs.flatten b) (hk : k ≤ 9000) (S : Store) : Okv S (tabV rs b) := okv_tab (h.up hk)
theorem need_alike_at {i nt kt kf : Nat} (h : P.defs[i]? = some ⟨2, 2, L_need_alike nt kf⟩) (hn : At P fu d nt (cNeed isTab kt)) : At P fu (d + 1) i (cAlikeT kt kf) := .mk h fun n hd => by
  have hn := hn n hd
  refine ⟨fun S u v hu ru => ?_, fun S u v hu hv ru rv => ?_, fun S rs b w ms c w' r q k1 k2 => ?_⟩
  · have e := hn S u hu
    rw [ru] at e
    simp at e
    simp [runD, L_need_alike, start0, e]
  · have e := hn S u hu
    have e' := hn S v hv
    rw [ru] at e
    rw [rv] at e'
    simp at e e'
    simp [runD, L_need_alike, start0, e, e']
  · have e := hn S _ (k1.okT (Nat.le_refl _) S)
    have e' := hn S _ (k2.okT (Nat.le_refl _) S)
    rw [r.is] at e
    rw [q.is] at e'
    have l1 : bltV .len [.tup (rs.map tI)] S = .ok (.int rs.length) S := by show Res.ok (Val.int ((rs.map tI).length : Nat)) S = _; rw [List.length_map]
    have l2 : bltV .len [.tup (ms.map tI)] S = .ok (.int ms.length) S := by show Res.ok (Val.int ((ms.map tI).length : Nat)) S = _; rw [List.length_map]
    obtain ⟨r0, rt, hr, hrw⟩ := r.head
    obtain ⟨q0, qt, hq, hqw⟩ := q.head
    have l3 : bltV .len [tI r0] S = .ok (.int w) S := by show Res.ok (Val.int ((r0.map Val.int).length : Nat)) S = _; rw [List.length_map, hrw]
    have l4 : bltV .len [tI q0] S = .ok (.int w') S := by show Res.ok (Val.int ((q0.map Val.int).length : Nat)) S = _; rw [List.length_map, hqw]
    have i1 : idxV (.tup (rs.map tI)) (.int 0) S = .ok (tI r0) S := by rw [hr]; exact idx_tup0 _ _ _
    have i2 : idxV (.tup (ms.map tI)) (.int 0) S = .ok (tI q0) S := by rw [hq]; exact idx_tup0 _ _ _
    unfold tabV at *
    unfold alikeF
    by_cases h1 : rs.length = ms.length
    · by_cases h2 : w = w'
      · simp [runD, L_need_alike, start0, e, e', l1, l2, l3, l4, i1, i2, cmp_ne, h1, h2]
      · have h2' : ¬ (w : Int) = w' := by omega
        simp [runD, L_need_alike, start0, e, e', l1, l2, l3, l4, i1, i2, cmp_ne, h1, h2, h2']
    · have h1' : ¬ (rs.length : Int) = ms.length := by omega
      simp [runD, L_need_alike, start0, e, e', l1, l2, l3, l4, i1, i2, cmp_ne, h1, h1']
theorem plus_tables_at {i nt sh kt kf : Nat} (h : P.defs[i]? = some ⟨2, 7, L_plus_tables nt sh⟩) (hn : At P fu d nt (cAlikeT kt kf)) (hs : At P fu d sh cShortT) : At P fu (d + 1) i (cTwoT kt kf alikeF plusTV) := .mk h fun n hd => by
  obtain ⟨n1, n2, n3⟩ := hn n hd
  refine ⟨fun S u v hu ru => ?_, fun S u v hu hv ru rv => ?_, fun S rs b w ms c w' r q k1 k2 hl => ?_, fun S rs b w ms c w' r q k1 k2 hl => ?_⟩
  · simp [runD, L_plus_tables, start0, n1 S u v hu ru]
  · simp [runD, L_plus_tables, start0, n2 S u v hu hv ru rv]
  · have e := n3 S rs b w ms c w' r q k1 k2
    rw [hl] at e
    simp at e
    simp [runD, L_plus_tables, start0, e]
  · have e := n3 S rs b w ms c w' r q (k1.up (by decide)) (k2.up (by decide))
    rw [hl] at e
    simp only [if_true] at e
    simp only [alikeF, Bool.and_eq_true, decide_eq_true_eq] at hl
    obtain ⟨hl, rfl⟩ := hl
    refine ⟨[.lst ((plusT rs b ms c).map lI)], W.eq ?_⟩
    rw [W_run rfl]
    have hb := r.pos
    have hc := q.pos
    have h12 := r.hi
    have bd := plusT_bd k1 k2
    have es := hs n hd (S ++ [.lst ((plusT rs b ms c).map lI)]) (.ref S.length) _ lI (b * c) (rws_ref (fun r => .inr rfl) (at_new S _ [])) (by rw [plusT_len hl]; omega) (fun x hx => by rw [plusT_wd r.wd q.wd x hx]; have := r.whi; omega) (Int.mul_pos hb hc) (bd.up (by decide))
    simp! [L_plus_tables, e]
    simp! [tabV, zip_tI]
    have zl : (rs.zip ms).length = rs.length := by simp [hl]
    refine WF_for (fun k en T => T = S ++ [.lst ((((rs.zip ms).take k).map fun p => plusI p.1 b p.2 c).map lI)] ∧ ∃ o3 o4 o5 o6, en = [some (tabV rs b), some (tabV ms c), some (.ref S.length), o3, o4, o5, o6]) ⟨rfl, _, _, _, _, rfl⟩ (fun _ _ _ _ => live_nil _) ?_ ?_
    · rintro k v en T hk ⟨rfl, o3, o4, o5, o6, rfl⟩
      rw [List.getElem?_map, Option.map_eq_some_iff] at hk
      obtain ⟨p, hp, rfl⟩ := hk
      obtain ⟨m1, m2⟩ := mem_zipT (List.mem_of_getElem? hp)
      refine ⟨_, put2, ?_⟩
      have pl : p.1.length = p.2.length := by rw [r.wd _ m1, q.wd _ m2]
      simp! [ty_new _ .append rfl, tI, zip_ints, tabV]
      refine W_lcG (p.1.zip p.2) _ (fun z => .int (z.1 * c + z.2 * b)) (by first | exact live_nil _ | exact live_ll _ _ _ _ _) (by rw [len_zip pl, r.wd _ m1]; have := r.whi; omega) (fun z hz => ⟨_, put2, by simp! [GW.W_ok], ?_⟩) ?_
      · obtain ⟨a1, a2⟩ := mem_zip hz
        simp! [mulOk_p (bdd_row k1 m1 _ a1) k2.b (by decide), mulOk_p (bdd_row k2 m2 _ a2) k1.b (by decide)]
      · rw [show (p.1.zip p.2).map (fun z => Val.int (z.1 * c + z.2 * b)) = (plusI p.1 b p.2 c).map .int by simp [plusI]]
        simp! [List.length_map, append_new _ (show ((((rs.zip ms).take k).map fun p => plusI p.1 b p.2 c).map lI).length < 1000 by simp; omega)]
        refine ⟨by rw [plus_len pl, r.wd _ m1]; have := r.whi; omega, ?_, _, _, _, _, rfl⟩
        rw [List.take_add_one, hp]
        simp [lI]
    · rintro en T ⟨rfl, o3, o4, o5, o6, rfl⟩
      rw [List.length_map, List.take_length]
      change callN P fu n sh [.ref S.length, .int (b * c)] (S ++ [.lst (((rs.zip ms).map fun p => plusI p.1 b p.2 c).map lI)]) = _ at es
      simp! [tabV, mulOk_p k1.b k2.b (by decide), es]
      rfl
theorem minus_tables_at {i nt sh kt kf : Nat} (h : P.defs[i]? = some ⟨2, 7, L_minus_tables nt sh⟩) (hn : At P fu d nt (cAlikeT kt kf)) (hs : At P fu d sh cShortT) : At P fu (d + 1) i (cTwoT kt kf alikeF minusTV) := .mk h fun n hd => by
  obtain ⟨n1, n2, n3⟩ := hn n hd
  refine ⟨fun S u v hu ru => ?_, fun S u v hu hv ru rv => ?_, fun S rs b w ms c w' r q k1 k2 hl => ?_, fun S rs b w ms c w' r q k1 k2 hl => ?_⟩
  · simp [runD, L_minus_tables, start0, n1 S u v hu ru]
  · simp [runD, L_minus_tables, start0, n2 S u v hu hv ru rv]
  · have e := n3 S rs b w ms c w' r q k1 k2
    rw [hl] at e
    simp at e
    simp [runD, L_minus_tables, start0, e]
  · have e := n3 S rs b w ms c w' r q (k1.up (by decide)) (k2.up (by decide))
    rw [hl] at e
    simp only [if_true] at e
    simp only [alikeF, Bool.and_eq_true, decide_eq_true_eq] at hl
    obtain ⟨hl, rfl⟩ := hl
    refine ⟨[.lst ((minusT rs b ms c).map lI)], W.eq ?_⟩
    rw [W_run rfl]
    have hb := r.pos
    have hc := q.pos
    have h12 := r.hi
    have bd := minusT_bd k1 k2
    have es := hs n hd (S ++ [.lst ((minusT rs b ms c).map lI)]) (.ref S.length) _ lI (b * c) (rws_ref (fun r => .inr rfl) (at_new S _ [])) (by rw [minusT_len hl]; omega) (fun x hx => by rw [minusT_wd r.wd q.wd x hx]; have := r.whi; omega) (Int.mul_pos hb hc) (bd.up (by decide))
    simp! [L_minus_tables, e]
    simp! [tabV, zip_tI]
    have zl : (rs.zip ms).length = rs.length := by simp [hl]
    refine WF_for (fun k en T => T = S ++ [.lst ((((rs.zip ms).take k).map fun p => minusI p.1 b p.2 c).map lI)] ∧ ∃ o3 o4 o5 o6, en = [some (tabV rs b), some (tabV ms c), some (.ref S.length), o3, o4, o5, o6]) ⟨rfl, _, _, _, _, rfl⟩ (fun _ _ _ _ => live_nil _) ?_ ?_
    · rintro k v en T hk ⟨rfl, o3, o4, o5, o6, rfl⟩
      rw [List.getElem?_map, Option.map_eq_some_iff] at hk
      obtain ⟨p, hp, rfl⟩ := hk
      obtain ⟨m1, m2⟩ := mem_zipT (List.mem_of_getElem? hp)
      refine ⟨_, put2, ?_⟩
      have pl : p.1.length = p.2.length := by rw [r.wd _ m1, q.wd _ m2]
      simp! [ty_new _ .append rfl, tI, zip_ints, tabV]
      refine W_lcG (p.1.zip p.2) _ (fun z => .int (z.1 * c - z.2 * b)) (by first | exact live_nil _ | exact live_ll _ _ _ _ _) (by rw [len_zip pl, r.wd _ m1]; have := r.whi; omega) (fun z hz => ⟨_, put2, by simp! [GW.W_ok], ?_⟩) ?_
      · obtain ⟨a1, a2⟩ := mem_zip hz
        simp! [mulOk_p (bdd_row k1 m1 _ a1) k2.b (by decide), mulOk_p (bdd_row k2 m2 _ a2) k1.b (by decide)]
      · rw [show (p.1.zip p.2).map (fun z => Val.int (z.1 * c - z.2 * b)) = (minusI p.1 b p.2 c).map .int by simp [minusI]]
        simp! [List.length_map, append_new _ (show ((((rs.zip ms).take k).map fun p => minusI p.1 b p.2 c).map lI).length < 1000 by simp; omega)]
        refine ⟨by rw [minus_len pl, r.wd _ m1]; have := r.whi; omega, ?_, _, _, _, _, rfl⟩
        rw [List.take_add_one, hp]
        simp [lI]
    · rintro en T ⟨rfl, o3, o4, o5, o6, rfl⟩
      rw [List.length_map, List.take_length]
      change callN P fu n sh [.ref S.length, .int (b * c)] (S ++ [.lst (((rs.zip ms).map fun p => minusI p.1 b p.2 c).map lI)]) = _ at es
      simp! [tabV, mulOk_p k1.b k2.b (by decide), es]
      rfl
end
end GW
set_option exponentiation.threshold 20000
/-! Core 50: products, flipped tables, tables taken so many times, applied, outer, mirrored. -/
namespace GW
open PySem
def prodT (rs ms : List (List Int)) (w : Nat) : List (List Int) := rs.map fun r => (colsL ms w).map fun c => dotI r c
def prodTV (rs : List (List Int)) (b : Int) (_ : Nat) (ms : List (List Int)) (c : Int) (w' : Nat) : Val := shortT (prodT rs ms w') (b * c)
def prodF (_ w b _ : Nat) : Bool := decide (w = b)
theorem cols_len (ms : List (List Int)) (w : Nat) : (colsL ms w).length = w := by simp [colsL]
theorem cols_row {ms : List (List Int)} {w : Nat} {c : List Int} (h : c ∈ colsL ms w) : c.length = ms.length := by
  obtain ⟨j, _, rfl⟩ := List.mem_map.mp h
  simp
theorem cols_bd {ms : List (List Int)} {w k : Nat} (hw : ∀ r ∈ ms, r.length = w) (h : ∀ x ∈ ms.flatten, x.natAbs < 2 ^ k) {c : List Int} (hc : c ∈ colsL ms w) : ∀ x ∈ c, x.natAbs < 2 ^ k := by
  obtain ⟨j, hj, rfl⟩ := List.mem_map.mp hc
  intro x hx
  obtain ⟨r, hr, rfl⟩ := List.mem_map.mp hx
  have hj' : j < r.length := by rw [hw r hr]; exact List.mem_range.mp hj
  rw [List.getD_eq_getElem?_getD, List.getElem?_eq_getElem hj']
  exact h _ (List.mem_flatten.mpr ⟨r, hr, List.getElem_mem hj'⟩)
theorem prodT_bd {k w : Nat} {rs ms : List (List Int)} {b c : Int} (h : Bdd k rs.flatten b) (q : Bdd k ms.flatten c) (hl : ∀ r ∈ rs, r.length ≤ 12) (hw : ∀ r ∈ ms, r.length = w) : Bdd (k + k + 4) (prodT rs ms w).flatten (b * c) := ⟨fun x hx => by
  obtain ⟨r, hr, hx⟩ := List.mem_flatten.mp hx
  obtain ⟨s, hs, rfl⟩ := List.mem_map.mp hr
  obtain ⟨t, ht, rfl⟩ := List.mem_map.mp hx
  exact dot_bd (bdd_row h hs) (cols_bd hw q.ns ht) (hl s hs), pow_up (mul_lt h.b q.b) (by omega)⟩
theorem prodT_wd (rs ms : List (List Int)) (w : Nat) : ∀ r ∈ prodT rs ms w, r.length = w := fun r hr => by
  obtain ⟨s, hs, rfl⟩ := List.mem_map.mp hr
  rw [List.length_map, cols_len]
section
variable {P : Pg} {fu d : Nat}
theorem len_rows {rs : List (List Int)} {S : Store} : bltV .len [.tup (rs.map tI)] S = .ok (.int rs.length) S := by show Res.ok (Val.int ((rs.map tI).length : Nat)) S = _; rw [List.length_map]
theorem len_tI' {r : List Int} {S : Store} : bltV .len [tI r] S = .ok (.int r.length) S := by show Res.ok (Val.int ((r.map Val.int).length : Nat)) S = _; rw [List.length_map]
theorem head_i {rs : List (List Int)} {r0 : List Int} {rt : List (List Int)} (h : rs = r0 :: rt) {S : Store} : idxV (.tup (rs.map tI)) (.int 0) S = .ok (tI r0) S := by rw [h]; exact idx_tup0 _ _ _
/-- the first of two is needed as a table -/
theorem product_of_at {i nt co sh su kt kf : Nat} (h : P.defs[i]? = some ⟨2, 5, L_product_of nt co sh su kf⟩) (hn : At P fu d nt (cNeed isTab kt)) (hc : At P fu d co cCols) (hs : At P fu d sh cShortT) (hu : At P fu d su cSumOf) : At P fu (d + 1) i (cTwoT kt kf prodF prodTV) := .mk h fun n hd => by
  have hn := hn n hd
  refine ⟨fun S u v hu ru => ?_, fun S u v hu hv ru rv => ?_, fun S rs b w ms c w' r q k1 k2 hl => ?_, fun S rs b w ms c w' r q k1 k2 hl => ?_⟩
  · have e := hn S u hu
    rw [ru] at e
    simp at e
    simp [runD, L_product_of, start0, e]
  · have e := hn S u hu
    have e' := hn S v hv
    rw [ru] at e
    rw [rv] at e'
    simp at e e'
    simp [runD, L_product_of, start0, e, e']
  · have e := hn S _ (k1.okT (Nat.le_refl _) S)
    have e' := hn S _ (k2.okT (Nat.le_refl _) S)
    rw [r.is] at e
    rw [q.is] at e'
    obtain ⟨r0, rt, hr, hrw⟩ := r.head
    have i1 := head_i hr (S := S)
    have l1 := len_tI' (r := r0) (S := S)
    have l2 := len_rows (rs := ms) (S := S)
    rw [hrw] at l1
    have h2 : ¬ (w : Int) = ms.length := by simp [prodF] at hl; omega
    unfold tabV at *
    simp [runD, L_product_of, start0, e, e', i1, l1, l2, cmp_ne, h2]
  · have e := hn S _ (k1.okT (by decide) S)
    have e' := hn S _ (k2.okT (by decide) S)
    rw [r.is] at e
    rw [q.is] at e'
    simp only [if_true] at e e'
    obtain ⟨r0, rt, hr, hrw⟩ := r.head
    have i1 := head_i hr (S := S)
    have h2 : (w : Int) = ms.length := by simp [prodF] at hl; omega
    have h12 := r.hi
    have w12 := r.whi
    have w12' := q.whi
    have m12 := q.hi
    have bd := prodT_bd (w := w') k1 k2 (fun x hx => by rw [r.wd x hx]; exact w12) q.wd
    have ec := hc n hd S ms c w' q.lo (by omega) (by omega) q.wd
    have es := hs n hd S (.lst ((prodT rs ms w').map lI)) _ lI (b * c) (rws_ll S _) (by simp [prodT]; omega) (fun x hx => by rw [prodT_wd rs ms w' x hx]; omega) (Int.mul_pos r.pos q.pos) (bd.up (by decide))
    refine ⟨[], W.eq ?_⟩
    rw [W_run rfl, List.append_nil]
    simp! [L_product_of, e, e']
    simp! [tabV, i1, len_tI', hrw, len_rows, h2]
    simp! [ec, show tabV ms c = .tup [.tup (ms.map tI), .int c] from rfl]
    unfold tabV at ec
    simp! [ec]
    refine W_lcA rs tI (fun r => lI ((colsL ms w').map fun c => dotI r c)) (live_t _ _ _) (by omega) (fun x hx => by simp! [GW.W_ok]) (fun x hx => ?_) ?_
    · simp! [GW.W_ok]
      refine W_lcA (colsL ms w') tI (fun c => .int (dotI x c)) (live_l _ _ _) (by rw [cols_len]; omega) (fun y hy => by simp! [GW.W_ok]) (fun y hy => by simp! [hu n hd S x y 4000 (by decide) (by rw [r.wd x hx]; omega) (bdd_row k1 hx) (cols_bd q.wd k2.ns hy)]) ?_
      simp! [List.length_map, cols_len]
      refine ⟨by omega, ?_⟩
      simp [lI, Function.comp_def]
    · rw [show (rs.map fun r => lI ((colsL ms w').map fun c => dotI r c)) = (prodT rs ms w').map lI by simp [prodT, Function.comp_def]]
      simp! [List.length_map, mulOk_p k1.b k2.b (by decide), es]
      refine ⟨by simp [prodT]; omega, rfl⟩
def cFlipped (kt : Nat) : Ct := fun f => (∀ S v, Okv S v → isTab v = false → f [v] S = .exc kt [v] S) ∧ ∀ S rs b w, IsTab rs b w → Bdd 9000 rs.flatten b → f [tabV rs b] S = .ok (tabV (colsL rs w) b) S
theorem flipped_table_at {i nt co kt : Nat} (h : P.defs[i]? = some ⟨1, 1, L_flipped_table nt co⟩) (hn : At P fu d nt (cNeed isTab kt)) (hc : At P fu d co cCols) : At P fu (d + 1) i (cFlipped kt) := .mk h fun n hd => by
  have hn := hn n hd
  refine ⟨fun S u hu ru => ?_, fun S rs b w r k1 => ?_⟩
  · have e := hn S u hu
    rw [ru] at e
    simp at e
    simp [runD, L_flipped_table, start0, e]
  · have e := hn S _ (k1.okT (by decide) S)
    rw [r.is] at e
    simp only [if_true] at e
    have ec := hc n hd S rs b w r.lo (by have := r.hi; omega) (by have := r.whi; omega) r.wd
    refine W.eq ?_
    rw [W_run rfl]
    unfold tabV at *
    simp! [L_flipped_table, e, ec]
def cMirrored (kt : Nat) : Ct := fun f => (∀ S v, Okv S v → isTab v = false → f [v] S = .exc kt [v] S) ∧ ∀ S rs b w, IsTab rs b w → Bdd 9000 rs.flatten b → f [tabV rs b] S = .ok (.bl (decide (colsL rs w = rs))) S
theorem is_mirrored_at {i nt co kt : Nat} (h : P.defs[i]? = some ⟨1, 1, L_is_mirrored nt co⟩) (hn : At P fu d nt (cNeed isTab kt)) (hc : At P fu d co cCols) : At P fu (d + 1) i (cMirrored kt) := .mk h fun n hd => by
  have hn := hn n hd
  refine ⟨fun S u hu ru => ?_, fun S rs b w r k1 => ?_⟩
  · have e := hn S u hu
    rw [ru] at e
    simp at e
    simp [runD, L_is_mirrored, start0, e]
  · have e := hn S _ (k1.okT (by decide) S)
    rw [r.is] at e
    simp only [if_true] at e
    have ec := hc n hd S rs b w r.lo (by have := r.hi; omega) (by have := r.whi; omega) r.wd
    have eq := eq_rows S (colsL rs w) rs
    refine W.eq ?_
    rw [W_run rfl]
    unfold tabV at *
    simp! [L_is_mirrored, e, ec, eq]
def timesT (rs : List (List Int)) (x : Int) : List (List Int) := rs.map fun r => timesI r x
structure cTimesT (ka kt : Nat) (f : List Val → Store → Res Val) : Prop where
  bad1 : ∀ S u v, Okv S u → isRat u = false → f [u, v] S = .exc ka [u] S
  bad2 : ∀ S u v, Okv S u → Okv S v → isRat u = true → isTab v = false → f [u, v] S = .exc kt [v] S
  ok : ∀ S x y rs b w, IsR x y → IsTab rs b w → x.natAbs < 2 ^ 4000 → y.natAbs < 2 ^ 4000 → Bdd 4000 rs.flatten b → f [.tup [.int x, .int y], tabV rs b] S = .ok (shortT (timesT rs x) (b * y)) S
theorem timesT_bd {k m : Nat} {rs : List (List Int)} {b x y : Int} (h : Bdd k rs.flatten b) (hx : x.natAbs < 2 ^ m) (hy : y.natAbs < 2 ^ m) : Bdd (k + m) (timesT rs x).flatten (b * y) := ⟨fun z hz => by
  obtain ⟨r, hr, hz⟩ := List.mem_flatten.mp hz
  obtain ⟨s, hs, rfl⟩ := List.mem_map.mp hr
  obtain ⟨p, hp, rfl⟩ := List.mem_map.mp hz
  exact mul_lt (bdd_row h hs _ hp) hx, mul_lt h.b hy⟩
theorem timesT_wd {rs : List (List Int)} {x : Int} {w : Nat} (h : ∀ r ∈ rs, r.length = w) : ∀ r ∈ timesT rs x, r.length = w := fun r hr => by
  obtain ⟨s, hs, rfl⟩ := List.mem_map.mp hr
  simp [timesI, h s hs]
theorem times_table_at {i na nt sh ka kt : Nat} (h : P.defs[i]? = some ⟨2, 4, L_times_table na nt sh⟩) (ha : At P fu d na (cNeed isRat ka)) (hr : At P fu d nt (cNeed isTab kt)) (hs : At P fu d sh cShortT) : At P fu (d + 1) i (cTimesT ka kt) := .mk h fun n hd => by
  have ha := ha n hd
  have hr := hr n hd
  refine ⟨fun S u v hu ru => ?_, fun S u v hu hv ru rv => ?_, fun S x y rs b w r q hx hy k => ?_⟩
  · have e := ha S u hu
    rw [ru] at e
    simp at e
    simp [runD, L_times_table, start0, e]
  · have e := ha S u hu
    have e' := hr S v hv
    rw [ru] at e
    rw [rv] at e'
    simp at e e'
    simp [runD, L_times_table, start0, e, e']
  · have e := ha S _ (okv_rat (pow_up hx (by decide)) (pow_up hy (by decide)))
    have e' := hr S _ (k.okT (by decide) S)
    rw [r.is] at e
    rw [q.is] at e'
    simp only [if_true] at e e'
    refine W.eq ?_
    rw [W_run rfl]
    have h12 := q.hi
    have w12 := q.whi
    have es := hs n hd S (.lst ((timesT rs x).map lI)) _ lI (b * y) (rws_ll S _) (by simp [timesT]; omega) (fun z hz => by rw [timesT_wd q.wd z hz]; omega) (Int.mul_pos q.pos r.pos) ((timesT_bd k hx hy).up (by decide))
    simp! [L_times_table, e, e']
    unfold tabV at *
    simp! [GW.W_ok]
    refine W_lcA rs tI (fun r => lI (timesI r x)) (live_t _ _ _) (by omega) (fun z hz => by simp! [GW.W_ok]) (fun z hz => ?_) ?_
    · simp! [tI]
      refine W_lcA z Val.int (fun t => .int (t * x)) (live_t _ _ _) (by rw [q.wd z hz]; omega) (fun t ht => by simp! [GW.W_ok]) (fun t ht => by simp! [mulOk_p (bdd_row k hz t ht) hx (by decide)]) ?_
      simp! [List.length_map]
      refine ⟨by rw [q.wd z hz]; omega, ?_⟩
      simp [lI, timesI]
    · rw [show (rs.map fun r => lI (timesI r x)) = (timesT rs x).map lI by simp [timesT]]
      simp! [List.length_map, mulOk_p k.b hy (by decide), es]
      simp [timesT]; omega
/-- a table applied to a row -/
def applI (rs : List (List Int)) (ns : List Int) : List Int := rs.map fun r => dotI r ns
structure cApplied (kt kr kf : Nat) (f : List Val → Store → Res Val) : Prop where
  bad1 : ∀ S u v, Okv S u → isTab u = false → f [u, v] S = .exc kt [u] S
  bad2 : ∀ S u v, Okv S u → Okv S v → isTab u = true → isRow v = false → f [u, v] S = .exc kr [v] S
  nofit : ∀ S rs b w ns c, IsTab rs b w → IsRow ns c → Bdd 9000 rs.flatten b → Bdd 9000 ns c → w ≠ ns.length → f [tabV rs b, rowV ns c] S = .exc kf [.tup [tabV rs b, rowV ns c]] S
  ok : ∀ S rs b w ns c, IsTab rs b w → IsRow ns c → Bdd 4000 rs.flatten b → Bdd 4000 ns c → w = ns.length → f [tabV rs b, rowV ns c] S = .ok (shortV (applI rs ns) (b * c)) S
theorem appl_bd {k : Nat} {rs : List (List Int)} {ns : List Int} {b c : Int} (h : Bdd k rs.flatten b) (q : Bdd k ns c) (hl : ∀ r ∈ rs, r.length ≤ 12) : Bdd (k + k + 4) (applI rs ns) (b * c) := ⟨fun x hx => by
  obtain ⟨s, hs, rfl⟩ := List.mem_map.mp hx
  exact dot_bd (bdd_row h hs) q.ns (hl s hs), pow_up (mul_lt h.b q.b) (by omega)⟩
theorem applied_to_at {i nt nr sh su kt kr kf : Nat} (h : P.defs[i]? = some ⟨2, 3, L_applied_to nt nr sh su kf⟩) (hn : At P fu d nt (cNeed isTab kt)) (hr : At P fu d nr (cNeed isRow kr)) (hs : At P fu d sh cShort) (hu : At P fu d su cSumOf) : At P fu (d + 1) i (cApplied kt kr kf) := .mk h fun n hd => by
  have hn := hn n hd
  have hr := hr n hd
  refine ⟨fun S u v hu ru => ?_, fun S u v hu hv ru rv => ?_, fun S rs b w ns c r q k1 k2 hl => ?_, fun S rs b w ns c r q k1 k2 hl => ?_⟩
  · have e := hn S u hu
    rw [ru] at e
    simp at e
    simp [runD, L_applied_to, start0, e]
  · have e := hn S u hu
    have e' := hr S v hv
    rw [ru] at e
    rw [rv] at e'
    simp at e e'
    simp [runD, L_applied_to, start0, e, e']
  · have e := hn S _ (k1.okT (Nat.le_refl _) S)
    have e' := hr S _ (k2.ok (Nat.le_refl _) S)
    rw [r.is] at e
    rw [q.is] at e'
    obtain ⟨r0, rt, hh, hrw⟩ := r.head
    have i1 := head_i hh (S := S)
    have l1 := len_tI' (r := r0) (S := S)
    have l2 := len_tI' (r := ns) (S := S)
    rw [hrw] at l1
    have h2 : ¬ (w : Int) = ns.length := by omega
    unfold tabV rowV at *
    unfold tI at l2
    simp [runD, L_applied_to, start0, e, e', i1, l1, l2, cmp_ne, h2]
  · have e := hn S _ (k1.okT (by decide) S)
    have e' := hr S _ (k2.ok (by decide) S)
    rw [r.is] at e
    rw [q.is] at e'
    simp only [if_true] at e e'
    obtain ⟨r0, rt, hh, hrw⟩ := r.head
    have i1 := head_i hh (S := S)
    have l1 := len_tI' (r := r0) (S := S)
    rw [hrw, hl] at l1
    have h12 := r.hi
    have w12 := r.whi
    have bd := appl_bd k1 k2 (fun x hx => by rw [r.wd x hx]; exact w12)
    have es := hs n hd S (.lst ((applI rs ns).map .int)) _ _ (.inr rfl) (by simp [applI]; omega) (Int.mul_pos r.pos q.pos) (bd.up (by decide))
    refine W.eq ?_
    rw [W_run rfl]
    simp! [L_applied_to, e, e']
    unfold tabV rowV at *
    simp! [i1, l1, List.length_map]
    refine W_lcA rs tI (fun r => .int (dotI r ns)) (live_t _ _ _) (by omega) (fun z hz => by simp! [GW.W_ok]) (fun z hz => ?_) ?_
    · have := hu n hd S z ns 4000 (by decide) (by rw [r.wd z hz]; omega) (bdd_row k1 hz) k2.ns
      change callN P fu n su [tI z, .tup (ns.map .int)] S = _ at this
      simp! [this]
    · rw [show (rs.map fun r => Val.int (dotI r ns)) = (applI rs ns).map .int by simp [applI]]
      simp! [List.length_map, mulOk_p k1.b k2.b (by decide), es]
      simp [applI]; omega
def outerT (ns ms : List Int) : List (List Int) := ns.map fun x => ms.map fun y => x * y
structure cOuter (kr : Nat) (f : List Val → Store → Res Val) : Prop where
  bad1 : ∀ S u v, Okv S u → isRow u = false → f [u, v] S = .exc kr [u] S
  bad2 : ∀ S u v, Okv S u → Okv S v → isRow u = true → isRow v = false → f [u, v] S = .exc kr [v] S
  ok : ∀ S ns b ms c, IsRow ns b → IsRow ms c → Bdd 4000 ns b → Bdd 4000 ms c → f [rowV ns b, rowV ms c] S = .ok (shortT (outerT ns ms) (b * c)) S
theorem outer_bd {k : Nat} {ns ms : List Int} {b c : Int} (h : Bdd k ns b) (q : Bdd k ms c) : Bdd (k + k) (outerT ns ms).flatten (b * c) := ⟨fun x hx => by
  obtain ⟨r, hr, hx⟩ := List.mem_flatten.mp hx
  obtain ⟨s, hs, rfl⟩ := List.mem_map.mp hr
  obtain ⟨t, ht, rfl⟩ := List.mem_map.mp hx
  exact mul_lt (h.ns _ hs) (q.ns _ ht), mul_lt h.b q.b⟩
theorem outer_wd (ns ms : List Int) : ∀ r ∈ outerT ns ms, r.length = ms.length := fun r hr => by
  obtain ⟨s, hs, rfl⟩ := List.mem_map.mp hr
  simp
theorem outer_rows_at {i nr sh kr : Nat} (h : P.defs[i]? = some ⟨2, 4, L_outer_rows nr sh⟩) (hr : At P fu d nr (cNeed isRow kr)) (hs : At P fu d sh cShortT) : At P fu (d + 1) i (cOuter kr) := .mk h fun n hd => by
  have hr := hr n hd
  refine ⟨fun S u v hu ru => ?_, fun S u v hu hv ru rv => ?_, fun S ns b ms c r q k1 k2 => ?_⟩
  · have e := hr S u hu
    rw [ru] at e
    simp at e
    simp [runD, L_outer_rows, start0, e]
  · have e := hr S u hu
    have e' := hr S v hv
    rw [ru] at e
    rw [rv] at e'
    simp at e e'
    simp [runD, L_outer_rows, start0, e, e']
  · have e := hr S _ (k1.ok (by decide) S)
    have e' := hr S _ (k2.ok (by decide) S)
    rw [r.is] at e
    rw [q.is] at e'
    simp only [if_true] at e e'
    have h12 := r.hi
    have w12 := q.hi
    have es := hs n hd S (.lst ((outerT ns ms).map lI)) _ lI (b * c) (rws_ll S _) (by simp [outerT]; omega) (fun z hz => by rw [outer_wd ns ms z hz]; omega) (Int.mul_pos r.pos q.pos) ((outer_bd k1 k2).up (by decide))
    refine W.eq ?_
    rw [W_run rfl]
    simp! [L_outer_rows, e, e']
    unfold rowV at *
    simp! [GW.W_ok]
    refine W_lcA ns Val.int (fun x => lI (ms.map fun y => x * y)) (live_t _ _ _) (by omega) (fun z hz => by simp! [GW.W_ok]) (fun z hz => ?_) ?_
    · simp! [GW.W_ok]
      refine W_lcA ms Val.int (fun t => .int (z * t)) (live_t _ _ _) (by omega) (fun t ht => by simp! [GW.W_ok]) (fun t ht => by simp! [mulOk_p (k1.ns z hz) (k2.ns t ht) (by decide)]) ?_
      simp! [List.length_map]
      refine ⟨by omega, ?_⟩
      simp [lI]
    · rw [show (ns.map fun x => lI (ms.map fun y => x * y)) = (outerT ns ms).map lI by simp [outerT]]
      simp! [List.length_map, mulOk_p k1.b k2.b (by decide), es]
      simp [outerT]; omega
end
end GW
set_option exponentiation.threshold 20000
/-! Core 51: rows told. -/
namespace GW
open PySem
theorem k9 {i : Int} (h : i.natAbs < 2 ^ 64) : i.natAbs < 2 ^ 9000 := pow_up h (by decide)
/-- is_whole: 0 thing 1 low 2 high -/
-- np nn = 3 3
def L_is_whole (c_is_number : Nat) : Cs := (.cons (.ret (.and (.call c_is_number (.cons (.var 0) .nil)) (.chn .le .le (.var 1) (.var 0) (.var 2))))
  .nil)
/-- need_many: 0 many -/
-- np nn = 1 1
def L_need_many (c_is_whole k_2 : Nat) : Cs := (.cons (.ife (.not (.call c_is_whole (.cons (.var 0) (.cons (.cst (.int 1)) (.cons (.glo "MOST" (.int 12)) .nil))))) (.cons (.rai k_2 (.cons (.var 0) .nil))
    .nil) .nil)
  .nil)
/-- row_of: 0 ratios 1 bottom 2 one -/
-- np nn = 1 3
def L_row_of (c_is_ratio c_common_part c_short_row k_1 : Nat) : Cs := (.cons (.ife (.or (.not (.isi (.var 0) ["list", "tuple"])) (.not (.chn .le .le (.cst (.int 1)) (.blt .len (.cons (.var 0) .nil)) (.glo "MOST" (.int 12))))) (.cons (.rai k_1 (.cons (.var 0) .nil))
    .nil) .nil)
  (.cons (.ife (.not (.blt .all (.cons (.lc false (.one 2) (.val (.var 0)) .nil (.call c_is_ratio (.cons (.var 2) .nil))) .nil))) (.cons (.rai k_1 (.cons (.var 0) .nil))
    .nil) .nil)
  (.cons (.set 1 (.cst (.int 1)))
  (.cons (.forr (.one 2) (.val (.var 0)) (.cons (.set 1 (.bin .div (.bin .mul (.var 1) (.idx (.var 2) (.cst (.int 1)))) (.call c_common_part (.cons (.var 1) (.cons (.idx (.var 2) (.cst (.int 1))) .nil)))))
    .nil))
  (.cons (.ret (.call c_short_row (.cons (.lc false (.one 2) (.val (.var 0)) .nil (.bin .mul (.idx (.var 2) (.cst (.int 0))) (.bin .div (.var 1) (.idx (.var 2) (.cst (.int 1)))))) (.cons (.var 1) .nil))))
  .nil)))))
/-- row_ratios: 0 row 1 number -/
-- np nn = 1 2
def L_row_ratios (c_need_row c_lowest : Nat) : Cs := (.cons (.exp (.call c_need_row (.cons (.var 0) .nil)))
  (.cons (.ret (.lc true (.one 1) (.val (.idx (.var 0) (.cst (.int 0)))) .nil (.call c_lowest (.cons (.var 1) (.cons (.idx (.var 0) (.cst (.int 1))) .nil)))))
  .nil))
/-- nought_row: 0 many -/
-- np nn = 1 1
def L_nought_row (c_need_many : Nat) : Cs := (.cons (.exp (.call c_need_many (.cons (.var 0) .nil)))
  (.cons (.ret (.tpd (.cons (.bin .mul (.tpd (.cons (.cst (.int 0)) .nil)) (.var 0)) (.cons (.cst (.int 1)) .nil))))
  .nil))
/-- unit_row: 0 many 1 at -/
-- np nn = 2 2
def L_unit_row (c_need_many c_is_whole k_2 : Nat) : Cs := (.cons (.exp (.call c_need_many (.cons (.var 0) .nil)))
  (.cons (.ife (.not (.call c_is_whole (.cons (.var 1) (.cons (.cst (.int 0)) (.cons (.bin .sub (.var 0) (.cst (.int 1))) .nil))))) (.cons (.rai k_2 (.cons (.var 1) .nil))
    .nil) .nil)
  (.cons (.ret (.tpd (.cons (.bin .add (.bin .add (.bin .mul (.tpd (.cons (.cst (.int 0)) .nil)) (.var 1)) (.tpd (.cons (.cst (.int 1)) .nil))) (.bin .mul (.tpd (.cons (.cst (.int 0)) .nil)) (.bin .sub (.bin .sub (.var 0) (.cst (.int 1))) (.var 1)))) (.cons (.cst (.int 1)) .nil))))
  .nil)))
/-- _law_due: 0 _law_ratios 1 _law_bottom 2 _law_top 3 _law_under -/
-- np nn = 1 4
def L_l_due (c_l_common : Nat) : Cs := (.cons (.set 1 (.cst (.int 1)))
  (.cons (.forr (.tup [2, 3]) (.val (.var 0)) (.cons (.set 1 (.bin .div (.bin .mul (.var 1) (.var 3)) (.call c_l_common (.cons (.var 1) (.cons (.var 3) .nil)))))
    .nil))
  (.cons (.ret (.tpd (.cons (.blt .tuple (.cons (.lc false (.tup [2, 3]) (.val (.var 0)) .nil (.bin .mul (.var 2) (.bin .div (.var 1) (.var 3)))) .nil)) (.cons (.var 1) .nil))))
  .nil)))
def isWh (lo hi : Int) : Val → Bool
  | .int i => decide (lo ≤ i) && decide (i ≤ hi)
  | _ => false
def cWhole : Ct := fun f => ∀ (S : Store) (v : Val) (lo hi : Int), Okv S v → f [v, .int lo, .int hi] S = .ok (.bl (isWh lo hi v)) S
theorem isWh_nat {m : Nat} {lo hi : Int} {v : Val} (h : isWh lo hi v = true) : ∃ i, v = .int i ∧ lo ≤ i ∧ i ≤ hi := by
  cases v <;> first | (cases h; done) | skip
  simp only [isWh, Bool.and_eq_true, decide_eq_true_eq] at h
  exact ⟨_, rfl, h.1, h.2⟩
/-- the least common multiple as it is reckoned -/
def lcmF (b y : Int) : Int := (b * y).fdiv (Int.gcd b y)
theorem lcmF_eq {b y : Int} (hb : 0 < b) (hy : 0 < y) : lcmF b y = (Nat.lcm b.natAbs y.natAbs : Nat) := by
  obtain ⟨m, rfl⟩ : ∃ m : Nat, b = m := ⟨b.toNat, by omega⟩
  obtain ⟨k, rfl⟩ : ∃ k : Nat, y = k := ⟨y.toNat, by omega⟩
  unfold lcmF Nat.lcm
  rw [Int.gcd_natCast_natCast, Int.natAbs_natCast, Int.natAbs_natCast, Int.fdiv_eq_ediv_of_nonneg _ (Int.natCast_nonneg _)]
  push_cast
  rfl
theorem lcmF_pos {b y : Int} (hb : 0 < b) (hy : 0 < y) : 0 < lcmF b y := by
  rw [lcmF_eq hb hy]
  have := Nat.lcm_pos (m := b.natAbs) (n := y.natAbs) (by omega) (by omega)
  omega
theorem lcmF_dvd {b y : Int} (hb : 0 < b) (hy : 0 < y) : b ∣ lcmF b y ∧ y ∣ lcmF b y := by
  rw [lcmF_eq hb hy]
  refine ⟨?_, ?_⟩
  · rw [← Int.natAbs_dvd_natAbs, Int.natAbs_natCast]; exact Nat.dvd_lcm_left _ _
  · rw [← Int.natAbs_dvd_natAbs, Int.natAbs_natCast]; exact Nat.dvd_lcm_right _ _
theorem lcmF_least {b y z : Int} (hb : 0 < b) (hy : 0 < y) (h1 : b ∣ z) (h2 : y ∣ z) : lcmF b y ∣ z := by
  rw [lcmF_eq hb hy, ← Int.natAbs_dvd_natAbs, Int.natAbs_natCast]
  exact Nat.lcm_dvd (Int.natAbs_dvd_natAbs.mpr h1) (Int.natAbs_dvd_natAbs.mpr h2)
theorem lcmF_le {b y : Int} (hb : 0 < b) (hy : 0 < y) : lcmF b y ≤ b * y := by
  have h : lcmF b y ∣ b * y := lcmF_least hb hy (Int.dvd_mul_right b y) (Int.dvd_mul_left b y)
  exact Int.le_of_dvd (Int.mul_pos hb hy) h
def lcmL (ps : List (Int × Int)) (b : Int) : Int := ps.foldl (fun b p => lcmF b p.2) b
theorem lcmL_all : ∀ (ps : List (Int × Int)) (b : Int) (k m : Nat), 0 < b → (∀ p ∈ ps, 0 < p.2 ∧ p.2.natAbs < 2 ^ k) → b.natAbs < 2 ^ m →
    0 < lcmL ps b ∧ b ∣ lcmL ps b ∧ (∀ p ∈ ps, p.2 ∣ lcmL ps b) ∧ (∀ z, b ∣ z → (∀ p ∈ ps, p.2 ∣ z) → lcmL ps b ∣ z) ∧ (lcmL ps b).natAbs < 2 ^ (m + k * ps.length)
  | [], b, k, m, hb, _, hm => ⟨hb, Int.dvd_refl _, fun _ h => (by cases h), fun z h _ => h, by simpa [lcmL] using hm⟩
  | p :: ps, b, k, m, hb, hp, hm => by
    have hy := hp p (List.mem_cons_self ..)
    have l1 := lcmF_le hb hy.1
    have l2 := lcmF_pos hb hy.1
    have l3 := mul_lt hm hy.2
    obtain ⟨a1, a2, a3, a4, a5⟩ := lcmL_all ps (lcmF b p.2) k (m + k) l2 (fun q hq => hp q (List.mem_cons_of_mem _ hq)) (by
      have : (lcmF b p.2).natAbs ≤ (b * p.2).natAbs := by omega
      omega)
    obtain ⟨d1, d2⟩ := lcmF_dvd hb hy.1
    refine ⟨a1, Int.dvd_trans d1 a2, fun q hq => ?_, fun z h1 h2 => ?_, ?_⟩
    · rcases List.mem_cons.mp hq with rfl | hq
      · exact Int.dvd_trans d2 a2
      · exact a3 q hq
    · exact a4 z (lcmF_least hb hy.1 h1 (h2 p (List.mem_cons_self ..))) fun q hq => h2 q (List.mem_cons_of_mem _ hq)
    · rw [List.length_cons, Nat.mul_add, Nat.mul_one, show m + (k * ps.length + k) = m + k + k * ps.length by omega]
      exact a5
/-- the numbers over one bottom -/
def overI (ps : List (Int × Int)) (b : Int) : List Int := ps.map fun p => p.1 * b.fdiv p.2
structure Rats (k : Nat) (ps : List (Int × Int)) : Prop where
  lo : 1 ≤ ps.length
  hi : ps.length ≤ 12
  rt : ∀ p ∈ ps, IsR p.1 p.2
  bd : ∀ p ∈ ps, p.1.natAbs < 2 ^ k ∧ p.2.natAbs < 2 ^ k
def ratV (p : Int × Int) : Val := .tup [.int p.1, .int p.2]
def botL (ps : List (Int × Int)) : Int := lcmL ps 1
theorem Rats.all {k : Nat} {ps : List (Int × Int)} (h : Rats k ps) : 0 < lcmL ps 1 ∧ 1 ∣ lcmL ps 1 ∧ (∀ p ∈ ps, p.2 ∣ lcmL ps 1) ∧ (∀ z, 1 ∣ z → (∀ p ∈ ps, p.2 ∣ z) → lcmL ps 1 ∣ z) ∧ (lcmL ps 1).natAbs < 2 ^ (1 + k * ps.length) := lcmL_all ps 1 k 1 (by decide) (fun p hp => ⟨(h.rt p hp).pos, (h.bd p hp).2⟩) (by decide)
/-- over the least bottom the numbers are in lowest terms -/
theorem over_low {k : Nat} {ps : List (Int × Int)} (h : Rats k ps) : gcdL (overI ps (botL ps)) (botL ps) = 1 := by
  obtain ⟨a1, a2, a3, a4, a5⟩ := h.all
  unfold botL
  generalize lcmL ps 1 = L at *
  obtain ⟨g1, g2⟩ := gcdL_dvd (overI ps L) L
  have g0 := gcdL_pos (ns := overI ps L) a1
  generalize gcdL (overI ps L) L = g at *
  obtain ⟨M, hM⟩ := g1
  have key : ∀ p ∈ ps, p.2 ∣ M := fun p hp => by
    have r := h.rt p hp
    have hx := g2 (p.1 * L.fdiv p.2) (List.mem_map_of_mem hp)
    obtain ⟨q, hq⟩ := a3 p hp
    have e1 : L.fdiv p.2 = q := by rw [hq]; exact Int.mul_fdiv_cancel_left q (by have := r.pos; omega)
    rw [e1] at hx
    have hL : g ∣ p.2 * q := ⟨M, by rw [← hq]; exact hM⟩
    have co : g ∣ q := by
      have h1 := Int.dvd_coe_gcd hx hL
      rw [Int.gcd_mul_right, r.low, Nat.one_mul] at h1
      rw [← Int.natAbs_dvd_natAbs] at h1 ⊢
      simpa using h1
    obtain ⟨t, ht⟩ := co
    refine ⟨t, ?_⟩
    have : g * M = g * (p.2 * t) := by rw [← hM, hq, ht, ← Int.mul_assoc, Int.mul_comm p.2 g, Int.mul_assoc]
    exact Int.eq_of_mul_eq_mul_left (by omega) this
  have hLM := a4 M (Int.one_dvd _) key
  obtain ⟨s, hs⟩ := hLM
  have m0 : 0 < M := by
    rcases Int.lt_or_le 0 M with h | h
    · exact h
    · have := Int.mul_nonpos_of_nonneg_of_nonpos (Int.le_of_lt g0) h
      omega
  have le : L ≤ M := Int.le_of_dvd m0 ⟨s, hs⟩
  rcases Int.lt_or_le 1 g with h1 | h1
  · have : M * 1 < M * g := Int.mul_lt_mul_of_pos_left h1 m0
    rw [Int.mul_comm M g, ← hM] at this
    omega
  · omega
theorem over_bd {k : Nat} {ps : List (Int × Int)} (h : Rats k ps) : Bdd (1 + k * 12 + k) (overI ps (botL ps)) (botL ps) := by
  obtain ⟨a1, a2, a3, a4, a5⟩ := h.all
  have l := h.hi
  have up : (lcmL ps 1).natAbs < 2 ^ (1 + k * 12) := pow_up a5 (by have := Nat.mul_le_mul_left k l; omega)
  unfold botL
  refine ⟨fun x hx => ?_, pow_up up (by omega)⟩
  obtain ⟨p, hp, rfl⟩ := List.mem_map.mp hx
  have r := h.rt p hp
  obtain ⟨q, hq⟩ := a3 p hp
  have e1 : (lcmL ps 1).fdiv p.2 = q := by rw [hq]; exact Int.mul_fdiv_cancel_left q (by have := r.pos; omega)
  rw [e1]
  have hqb : q.natAbs < 2 ^ (1 + k * 12) := by
    refine Nat.lt_of_le_of_lt ?_ up
    rw [hq, Int.natAbs_mul]
    exact Nat.le_mul_of_pos_left _ (by have := r.pos; omega)
  have := mul_lt (h.bd p hp).1 hqb
  rwa [Nat.add_comm] at this
theorem over_row {k : Nat} {ps : List (Int × Int)} (h : Rats k ps) : IsRow (overI ps (botL ps)) (botL ps) := ⟨by simp [overI, h.lo], by simp [overI, h.hi], h.all.1, over_low h⟩
theorem rats_of {xs : List Val} (h : xs.all isRat = true) : ∃ ps : List (Int × Int), xs = ps.map ratV ∧ ∀ p ∈ ps, IsR p.1 p.2 := by
  induction xs with
  | nil => exact ⟨[], rfl, fun _ h => (by cases h)⟩
  | cons x xs ih =>
    rw [List.all_cons, Bool.and_eq_true] at h
    obtain ⟨a, b, rfl, r⟩ := isRat_iff.mp h.1
    obtain ⟨ps, rfl, hp⟩ := ih h.2
    exact ⟨(a, b) :: ps, rfl, fun p hp' => by
      rcases List.mem_cons.mp hp' with rfl | hp'
      · exact r
      · exact hp p hp'⟩
theorem rats_is {ps : List (Int × Int)} (h : ∀ p ∈ ps, IsR p.1 p.2) : (ps.map ratV).all isRat = true := by
  refine List.all_eq_true.mpr fun x hx => ?_
  obtain ⟨p, hp, rfl⟩ := List.mem_map.mp hx
  exact (h p hp).is
/-- what a list or a tuple holds -/
def seqI (S : Store) : Val → Option (List Val)
  | .tup xs => some xs
  | .lst xs => some xs
  | .ref l => (match S[l]? with
    | some (.lst xs) => some xs
    | _ => none)
  | _ => none
theorem seqI_items {S : Store} {v : Val} {xs : List Val} (h : seqI S v = some xs) : items S v = some xs ∧ live S [v] [xs] ∧ bltV .len [v] S = .ok (.int xs.length) S ∧ isiE S v ["list", "tuple"] = some true := by
  cases v with
  | tup ys => cases h; exact ⟨rfl, live_t _ _ _, rfl, rfl⟩
  | lst ys => cases h; exact ⟨rfl, live_l _ _ _, rfl, rfl⟩
  | ref l =>
    simp only [seqI] at h
    split at h
    · rename_i ys e
      cases h
      refine ⟨by unfold items lstI; dsimp only; rw [e], fun p hp => ?_, ?_, ?_⟩
      · simp only [List.zip_cons_cons, List.zip_nil_right, List.mem_cons, List.not_mem_nil, or_false] at hp
        subst hp
        exact e
      · unfold bltV lenV
        dsimp only
        rw [e]
      · unfold isiE tyN
        dsimp only
        rw [e]
        rfl
    · cases h
  | _ => cases h
theorem seqI_none {S : Store} {v : Val} (ho : Okv S v) (h : seqI S v = none) : isiE S v ["list", "tuple"] = some false := by
  cases v with
  | tup ys => cases h
  | lst ys => cases h
  | ref l =>
    obtain ⟨o, e⟩ := ho
    simp only [seqI] at h
    rw [e] at h
    unfold isiE tyN
    dsimp only
    rw [e]
    cases o with
    | lst xs => cases h
    | dct _ _ => rfl
  | scr _ => exact ho.elim
  | fn _ => exact ho.elim
  | exc _ _ => exact ho.elim
  | _ => rfl
def goodL (t : Val → Bool) (xs : List Val) : Bool := decide (1 ≤ xs.length) && decide (xs.length ≤ 12) && xs.all t
structure cRowOf (k : Nat) (f : List Val → Store → Res Val) : Prop where
  bad : ∀ S v, Okv S v → (∀ xs, seqI S v = some xs → Okvs S xs ∧ goodL isRat xs = false) → f [v] S = .exc k [v] S
  ok : ∀ S v ps, seqI S v = some (ps.map ratV) → Rats 120 ps → f [v] S = .ok (rowV (overI ps (botL ps)) (botL ps)) S
section
variable {P : Pg} {fu d : Nat}
theorem is_whole_at {i nu : Nat} (h : P.defs[i]? = some ⟨3, 3, L_is_whole nu⟩) (hn : At P fu d nu cNum) : At P fu (d + 1) i cWhole := .mk h fun n hd S v lo hi hv => by
  refine W.eq ?_
  rw [W_run rfl]
  have e := hn n hd S v hv
  cases nv : numb v with
  | false =>
    simp! [L_is_whole, e, nv]
    cases v <;> first | rfl | cases nv
  | true =>
    obtain ⟨j, rfl⟩ := numb_int nv
    simp! [L_is_whole, e, nv]
    by_cases h1 : lo ≤ j <;> simp [h1, isWh]
theorem need_many_at {i wh k : Nat} (h : P.defs[i]? = some ⟨1, 1, L_need_many wh k⟩) (hw : At P fu d wh cWhole) : At P fu (d + 1) i (cNeed (isWh 1 12) k) := .mk h fun n hd S v hv => by
  have e := hw n hd S v 1 12 hv
  cases ht : isWh 1 12 v <;> simp [runD, L_need_many, start0, e, ht]
theorem nought_row_at {i nm k : Nat} (h : P.defs[i]? = some ⟨1, 1, L_nought_row nm⟩) (hm : At P fu d nm (cNeed (isWh 1 12) k)) : At P fu (d + 1) i (fun f => (∀ S v, Okv S v → isWh 1 12 v = false → f [v] S = .exc k [v] S) ∧ ∀ S (m : Nat), 1 ≤ m → m ≤ 12 → f [.int m] S = .ok (rowV (List.replicate m 0) 1) S) := .mk h fun n hd => by
  have hm := hm n hd
  refine ⟨fun S v hv hw => ?_, fun S m m1 m2 => ?_⟩
  · have e := hm S v hv
    rw [hw] at e
    simp at e
    simp [runD, L_nought_row, start0, e]
  · have e := hm S (.int m) (k9 (by omega))
    rw [show isWh 1 12 (.int m) = true by simp [isWh]; omega] at e
    simp only [if_true] at e
    refine W.eq ?_
    rw [W_run rfl]
    simp! [L_nought_row, e, W_mulT (x := .int 0) (n := (m : Int)) (by omega) (by omega), Int.toNat_natCast, rep_int]
    rfl
def unitL (m j : Nat) : List Int := List.replicate j 0 ++ [1] ++ List.replicate (m - 1 - j) 0
structure cUnit (k : Nat) (f : List Val → Store → Res Val) : Prop where
  bad1 : ∀ S u v, Okv S u → isWh 1 12 u = false → f [u, v] S = .exc k [u] S
  bad2 : ∀ S (m : Nat) v, 1 ≤ m → m ≤ 12 → Okv S v → isWh 0 (m - 1) v = false → f [.int m, v] S = .exc k [v] S
  ok : ∀ S (m j : Nat), m ≤ 12 → j < m → f [.int m, .int j] S = .ok (rowV (unitL m j) 1) S
theorem unit_row_at {i nm wh k : Nat} (h : P.defs[i]? = some ⟨2, 2, L_unit_row nm wh k⟩) (hm : At P fu d nm (cNeed (isWh 1 12) k)) (hw : At P fu d wh cWhole) : At P fu (d + 1) i (cUnit k) := .mk h fun n hd => by
  have hm := hm n hd
  have hw := hw n hd
  refine ⟨fun S u v hu ru => ?_, fun S m v m1 m2 hv rv => ?_, fun S m j m2 hj => ?_⟩
  · have e := hm S u hu
    rw [ru] at e
    simp at e
    simp [runD, L_unit_row, start0, e]
  · have e := hm S (.int m) (k9 (by omega))
    rw [show isWh 1 12 (.int m) = true by simp [isWh]; omega] at e
    simp only [if_true] at e
    have e2 := hw S v 0 (m - 1) hv
    rw [rv] at e2
    simp [runD, L_unit_row, start0, e, e2]
  · have e := hm S (.int m) (k9 (by omega))
    rw [show isWh 1 12 (.int m) = true by simp [isWh]; omega] at e
    simp only [if_true] at e
    have e2 := hw S (.int j) 0 (m - 1) (k9 (by omega))
    rw [show isWh 0 ((m : Int) - 1) (.int j) = true by simp [isWh]; omega] at e2
    refine W.eq ?_
    rw [W_run rfl]
    have z : ((m : Int) - 1 - j).toNat = m - 1 - j := by omega
    simp! [L_unit_row, e, e2, W_mulT (x := .int 0) (n := (j : Int)) (by omega) (by omega), W_mulT (x := .int 0) (n := (m : Int) - 1 - j) (by omega) (by omega), Int.toNat_natCast, z, List.length_replicate, List.length_append]
    refine ⟨by omega, by omega, ?_⟩
    simp [rowV, unitL]
theorem row_of_at {i ir cp sh k : Nat} (h : P.defs[i]? = some ⟨1, 3, L_row_of ir cp sh k⟩) (hr : At P fu d ir cIsRat) (hp : At P fu d cp (cGcd fu)) (hs : At P fu d sh cShort) (hf : 2 ^ 9000 ≤ fu) : At P fu (d + 1) i (cRowOf k) := .mk h fun n hd => by
  have hr := hr n hd
  refine ⟨fun S v hv hx => ?_, fun S v ps hps q => ?_⟩
  · have main : W (runD (om P fu n) ⟨1, 3, L_row_of ir cp sh k⟩ [v] S) (fun _ _ => False) (fun c fs T => c = k ∧ fs = [v] ∧ T = S) := by
      rw [W_run rfl]
      cases hq : seqI S v with
      | none =>
        simp! [L_row_of, seqI_none hv hq, List.reverse_cons, List.reverse_nil]
      | some xs =>
        obtain ⟨i1, i2, i3, i4⟩ := seqI_items hq
        obtain ⟨ox, gx⟩ := hx xs hq
        simp! [L_row_of, i4, i3]
        by_cases h1 : 1 ≤ xs.length
        · by_cases h2 : xs.length ≤ 12
          · have c1 : (1 : Int) ≤ xs.length := by omega
            have c2 : (xs.length : Int) ≤ 12 := by omega
            simp! [c1, c2, i1, ex_some]
            refine W_lcV xs (fun x => .bl (isRat x)) i2 (by omega) (fun x hx => by simp! [GW.W_ok]) (fun x hx => by simp! [hr S x (okvs_iff.mp ox x hx)]) ?_
            simp! [List.length_map]
            refine ⟨by omega, all_w ?_⟩
            have : xs.all isRat = false := by simpa [goodL, h1, h2] using gx
            simp! [this, List.reverse_cons, List.reverse_nil]
          · have c1 : (1 : Int) ≤ xs.length := by omega
            have c2 : ¬ (xs.length : Int) ≤ 12 := by omega
            simp! [c1, c2, List.reverse_cons, List.reverse_nil]
        · have c1 : ¬ (1 : Int) ≤ xs.length := by omega
          simp! [c1, List.reverse_cons, List.reverse_nil]
    show runD _ _ _ _ = _
    generalize runD (om P fu n) ⟨1, 3, L_row_of ir cp sh k⟩ [v] S = r at main
    cases r with
    | ok a T => exact main.elim
    | exc c fs T => obtain ⟨rfl, rfl, rfl⟩ := main; rfl
    | stk => exact main.elim
  · obtain ⟨i1, i2, i3, i4⟩ := seqI_items hps
    have l1 := q.lo
    have l2 := q.hi
    obtain ⟨a1, a2, a3, a4, a5⟩ := q.all
    have bd := over_bd q
    refine W.eq ?_
    rw [W_run rfl]
    have c1 : (1 : Int) ≤ ps.length := by omega
    have c2 : (ps.length : Int) ≤ 12 := by omega
    simp! [L_row_of, i4, i3, List.length_map, c1, c2, i1, ex_some]
    refine W_lcA ps ratV (fun p => .bl (isRat (ratV p))) i2 (by omega) (fun x hx => by simp! [GW.W_ok]) (fun x hx => by simp! [hr S (ratV x) (okv_rat (pow_up (q.bd x hx).1 (by decide)) (pow_up (q.bd x hx).2 (by decide)))]) ?_
    simp! [List.length_map]
    refine ⟨by omega, ?_⟩
    rw [show ps.map (fun p => Val.bl (isRat (ratV p))) = (ps.map ratV).map fun x => Val.bl (isRat x) by simp]
    refine all_w ?_
    simp! [rats_is q.rt, i1, ex_some]
    have st : ∀ m, m ≤ ps.length → 0 < lcmL (ps.take m) 1 ∧ (lcmL (ps.take m) 1).natAbs < 2 ^ 1500 := fun m hm => by
      obtain ⟨b1, _, _, _, b5⟩ := lcmL_all (ps.take m) 1 120 1 (by decide) (fun p hp => ⟨(q.rt p (List.mem_of_mem_take hp)).pos, (q.bd p (List.mem_of_mem_take hp)).2⟩) (by decide)
      refine ⟨b1, pow_up b5 ?_⟩
      rw [List.length_take]
      have : min m ps.length ≤ 12 := by omega
      have := Nat.mul_le_mul_left 120 this
      omega
    refine WF_for (fun m en T => T = S ∧ ∃ o, en = [some v, some (.int (lcmL (ps.take m) 1)), o]) ⟨rfl, _, rfl⟩ (fun m en T h => by rw [h.1]; exact i2) ?_ ?_
    · rintro m x en T hm ⟨rfl, o, rfl⟩
      rw [List.getElem?_map, Option.map_eq_some_iff] at hm
      obtain ⟨p, hp', rfl⟩ := hm
      have hm' := (List.getElem?_eq_some_iff.mp hp').1
      have hpm := List.mem_of_getElem? hp'
      obtain ⟨s1, s2⟩ := st m (by omega)
      have r := q.rt p hpm
      have hb := (q.bd p hpm).2
      have gp : 0 < Int.gcd (lcmL (ps.take m) 1) p.2 := gcd_pos (by have := r.pos; omega)
      have gl : Int.gcd (lcmL (ps.take m) 1) p.2 ≤ p.2.natAbs := gcd_le (by have := r.pos; omega)
      have dv : divOk (lcmL (ps.take m) 1 * p.2) (Int.gcd (lcmL (ps.take m) 1) p.2) = true := divOk_b (by omega) (pow_up (show ((Int.gcd (lcmL (ps.take m) 1) p.2 : Nat) : Int).natAbs < 2 ^ 120 by omega) (by decide))
      refine ⟨_, rfl, ?_⟩
      simp! [ratV, mulOk_p s2 hb (by decide), hp n hd T (lcmL (ps.take m) 1) p.2 (Nat.lt_of_lt_of_le (pow_up hb (by decide)) hf), dv]
      rw [List.take_add_one, hp']
      simp [lcmL, List.foldl_append, lcmF]
    · rintro en T ⟨rfl, o, rfl⟩
      rw [List.length_map, List.take_length]
      have es := hs n hd T (.lst ((overI ps (botL ps)).map .int)) (overI ps (botL ps)) (botL ps) (.inr rfl) (by simp [overI]; omega) a1 (bd.up (by decide))
      rw [short_same (over_low q)] at es
      simp! [i1, ex_some]
      refine W_lcA ps ratV (fun p => .int (p.1 * (botL ps).fdiv p.2)) i2 (by omega) (fun x hx => by simp! [GW.W_ok]) (fun p hp' => ?_) ?_
      · have r := q.rt p hp'
        have hb := (q.bd p hp').2
        have h1 := bd.ns _ (List.mem_map_of_mem hp')
        have dv : divOk (lcmL ps 1) p.2 = true := divOk_b (by have := r.pos; omega) (pow_up hb (by decide))
        have mq : mulOk p.1 ((lcmL ps 1).fdiv p.2) = true := by
          obtain ⟨z, hz⟩ := a3 p hp'
          have e1 : (lcmL ps 1).fdiv p.2 = z := by rw [hz]; exact Int.mul_fdiv_cancel_left z (by have := r.pos; omega)
          rw [e1]
          refine mulOk_p (q.bd p hp').1 (m := 1500) (Nat.lt_of_le_of_lt ?_ (st ps.length (Nat.le_refl _)).2) (by decide)
          rw [List.take_length, hz, Int.natAbs_mul]
          exact Nat.le_mul_of_pos_left _ (by have := r.pos; omega)
        simp! [ratV, dv, mq]
        rfl
      · rw [show (ps.map fun p => Val.int (p.1 * (botL ps).fdiv p.2)) = (overI ps (botL ps)).map .int by simp [overI]]
        unfold botL at es ⊢
        simp! [List.length_map, es]
        simp [overI]; omega
/-- a row's ratios, a new list -/
def ratsOf (ns : List Int) (b : Int) : List Val := ns.map fun x => lowV x b
structure cRowRats (k : Nat) (f : List Val → Store → Res Val) : Prop where
  bad : ∀ S v, Okv S v → isRow v = false → f [v] S = .exc k [v] S
  ok : ∀ S ns b, IsRow ns b → Bdd 8000 ns b → f [rowV ns b] S = .ok (.ref S.length) (S ++ [.lst (ratsOf ns b)])
theorem row_ratios_at {i nr lo k : Nat} (h : P.defs[i]? = some ⟨1, 2, L_row_ratios nr lo⟩) (hr : At P fu d nr (cNeed isRow k)) (hl : At P fu d lo cLow) : At P fu (d + 1) i (cRowRats k) := .mk h fun n hd => by
  have hr := hr n hd
  refine ⟨fun S v hv rv => ?_, fun S ns b r q => ?_⟩
  · have e := hr S v hv
    rw [rv] at e
    simp at e
    simp [runD, L_row_ratios, start0, e]
  · have e := hr S _ (q.ok (by decide) S)
    rw [r.is] at e
    simp only [if_true] at e
    have main : W (runD (om P fu n) ⟨1, 2, L_row_ratios nr lo⟩ [rowV ns b] S) (fun a T => a = .ref S.length ∧ T = S ++ [.lst (ratsOf ns b)]) nX := by
      rw [W_run rfl]
      simp! [L_row_ratios, e]
      simp! [rowV]
      refine W_lcA ns Val.int (fun x => lowV x b) (live_t _ _ _) (by have := r.hi; omega) (fun x hx => by simp! [GW.W_ok]) (fun x hx => by simp! [rowV, hl n hd S x b (by have := r.pos; omega) (pow_up q.b (by decide))]) ?_
      simp! [List.length_map]
      exact ⟨by have := r.hi; omega, rfl⟩
    obtain ⟨a, T, e, rfl, rfl⟩ := main.get
    exact e
def cDue : Ct := fun f => ∀ (S : Store) (v : Val) (ps : List (Int × Int)), seqI S v = some (ps.map ratV) → Rats 120 ps → f [v] S = .ok (rowV (overI ps (botL ps)) (botL ps)) S
theorem l_due_at {i cp : Nat} (h : P.defs[i]? = some ⟨1, 4, L_l_due cp⟩) (hp : At P fu d cp (cGcd fu)) (hf : 2 ^ 9000 ≤ fu) : At P fu (d + 1) i cDue := .mk h fun n hd S v ps hps q => by
  obtain ⟨i1, i2, i3, i4⟩ := seqI_items hps
  have l1 := q.lo
  have l2 := q.hi
  obtain ⟨a1, a2, a3, a4, a5⟩ := q.all
  have bd := over_bd q
  refine W.eq ?_
  rw [W_run rfl]
  simp! [L_l_due, i1, ex_some]
  have st : ∀ m, m ≤ ps.length → 0 < lcmL (ps.take m) 1 ∧ (lcmL (ps.take m) 1).natAbs < 2 ^ 1500 := fun m hm => by
    obtain ⟨b1, _, _, _, b5⟩ := lcmL_all (ps.take m) 1 120 1 (by decide) (fun p hp => ⟨(q.rt p (List.mem_of_mem_take hp)).pos, (q.bd p (List.mem_of_mem_take hp)).2⟩) (by decide)
    refine ⟨b1, pow_up b5 ?_⟩
    rw [List.length_take]
    have : min m ps.length ≤ 12 := by omega
    have := Nat.mul_le_mul_left 120 this
    omega
  refine WF_for (fun m en T => T = S ∧ ∃ o o', en = [some v, some (.int (lcmL (ps.take m) 1)), o, o']) ⟨rfl, _, _, rfl⟩ (fun m en T h => by rw [h.1]; exact i2) ?_ ?_
  · rintro m x en T hm ⟨rfl, o, o', rfl⟩
    rw [List.getElem?_map, Option.map_eq_some_iff] at hm
    obtain ⟨p, hp', rfl⟩ := hm
    have hm' := (List.getElem?_eq_some_iff.mp hp').1
    have hpm := List.mem_of_getElem? hp'
    obtain ⟨s1, s2⟩ := st m (by omega)
    have r := q.rt p hpm
    have hb := (q.bd p hpm).2
    have gp : 0 < Int.gcd (lcmL (ps.take m) 1) p.2 := gcd_pos (by have := r.pos; omega)
    have gl : Int.gcd (lcmL (ps.take m) 1) p.2 ≤ p.2.natAbs := gcd_le (by have := r.pos; omega)
    have dv : divOk (lcmL (ps.take m) 1 * p.2) (Int.gcd (lcmL (ps.take m) 1) p.2) = true := divOk_b (by omega) (pow_up (show ((Int.gcd (lcmL (ps.take m) 1) p.2 : Nat) : Int).natAbs < 2 ^ 120 by omega) (by decide))
    refine ⟨_, put2, ?_⟩
    simp! [mulOk_p s2 hb (by decide), hp n hd T (lcmL (ps.take m) 1) p.2 (Nat.lt_of_lt_of_le (pow_up hb (by decide)) hf), dv]
    rw [List.take_add_one, hp']
    simp [lcmL, List.foldl_append, lcmF]
  · rintro en T ⟨rfl, o, o', rfl⟩
    rw [List.length_map, List.take_length]
    simp! [i1, ex_some]
    refine W_lcG ps ratV (fun p => .int (p.1 * (botL ps).fdiv p.2)) i2 (by omega) (fun p hp' => ⟨_, put2, by simp! [GW.W_ok], ?_⟩) ?_
    · have r := q.rt p hp'
      have hb := (q.bd p hp').2
      have dv : divOk (lcmL ps 1) p.2 = true := divOk_b (by have := r.pos; omega) (pow_up hb (by decide))
      have mq : mulOk p.1 ((lcmL ps 1).fdiv p.2) = true := by
        obtain ⟨z, hz⟩ := a3 p hp'
        have e1 : (lcmL ps 1).fdiv p.2 = z := by rw [hz]; exact Int.mul_fdiv_cancel_left z (by have := r.pos; omega)
        rw [e1]
        refine mulOk_p (q.bd p hp').1 (m := 1500) (Nat.lt_of_le_of_lt ?_ (st ps.length (Nat.le_refl _)).2) (by decide)
        rw [List.take_length, hz, Int.natAbs_mul]
        exact Nat.le_mul_of_pos_left _ (by have := r.pos; omega)
      simp! [dv, mq]
      rfl
    · simp! [List.length_map]
      refine ⟨by omega, ?_⟩
      simp [rowV, overI, botL]
end
end GW
set_option exponentiation.threshold 20000
/-! Core 52: what is refused is told back, though it is changed meanwhile. -/
namespace GW
open PySem
/-- _law_refused: 0 _law_call 1 _law_word 2 _law_one 3 _law_other 4 _law_due_here 5 _law_told 6 _law_same_here -/
-- np nn = 5 7
def L_l_refused (c_l_tried : Nat) : Cs := (.cons (.set 5 (.call c_l_tried (.cons (.var 0) (.cons (.var 2) (.cons (.var 3) .nil)))))
  (.cons (.ife (.or (.not (.isi (.var 5) ["list"])) (.cmp .ne (.blt .repr (.cons (.var 5) .nil)) (.blt .repr (.cons (.lsd false (.cons (.var 1) (.cons (.var 4) .nil))) .nil)))) (.cons (.ret (.cst (.bl false)))
    .nil) .nil)
  (.cons (.ife (.isi (.var 4) ["list"]) (.cons (.exp (.mth .append (.var 4) (.cons (.cst (.str "more")) .nil)))
    (.cons (.set 6 (.cmp .eq (.blt .repr (.cons (.var 5) .nil)) (.blt .repr (.cons (.lsd false (.cons (.var 1) (.cons (.var 4) .nil))) .nil))))
    (.cons (.exp (.mth .pop (.var 4) .nil))
    (.cons (.ret (.var 6))
    .nil)))) .nil)
  (.cons (.ret (.cst (.bl true)))
  .nil))))
theorem mth_pop {S : Store} {m : Nat} {zs : List Val} {y : Val} (h : S[m]? = some (.lst (zs ++ [y]))) : mthV .pop (.ref m) [] S = .ok y (S.set m (.lst zs)) := by
  unfold mthV lstAt
  rw [if_pos (show Mth.pop.isL = true from rfl)]
  dsimp only
  rw [h]
  dsimp only
  unfold mthL
  have : (zs ++ [y])[(zs ++ [y]).length - 1]? = some y := by simp
  rw [this]
  dsimp only
  unfold wrL
  rw [List.dropLast_concat]
def more : Val := .str "more"
/-- a thing that is due: it is shown, and shown again with one thing more -/
structure Due (S : Store) (v : Val) : Prop where
  sh : Sh S 11 7000 v
  ls : isiE S v ["list"] = some false ∨ ∃ m zs, v = .ref m ∧ S[m]? = some (.lst zs) ∧ zs.length < 900 ∧ Sh (S.set m (.lst (zs ++ [more]))) 11 7000 (.ref m)
theorem sh_text {S : Store} {k w : Nat} {z : Str} (h : (z.cps.toList.all fun c => decide (c < 128)) = true) (hw : z.cps.size ≤ w) : Sh S (k + 1) w (.str z) := by
  refine ⟨.str z, rfl, rfl, ?_, by unfold PyData.bulk; exact hw, by simp [PyData.depth]⟩
  unfold PyData.leavesShort
  exact List.all_eq_true.mpr fun c hc => decide_eq_true (Nat.lt_trans (of_decide_eq_true (List.all_eq_true.mp h c hc)) (by decide))
theorem sh_word {S : Store} {v : Val} {w : Str} (h : Sh S 11 7000 v) (hw : (w.cps.toList.all fun c => decide (c < 128)) = true) (hs : w.cps.size ≤ 20) : ∃ z, bltV .repr [.lst [.str w, v]] S = .ok (.str z) S :=
  repr_of (w := 20 + 1 + (7000 + 1 + 0)) (sh_lst (shs_cons (sh_text hw hs) (shs_cons h shs_nil))) (by decide)
theorem set_back {S : Store} {m : Nat} {zs : List Val} {o : Ob} (h : S[m]? = some (.lst zs)) : (S.set m o).set m (.lst zs) = S := by
  rw [List.set_set]
  have := (List.getElem?_eq_some_iff.mp h).2
  rw [← this, List.set_getElem_self]
theorem isi_ref {S : Store} {m : Nat} {zs : List Val} (h : S[m]? = some (.lst zs)) : isiE S (.ref m) ["list"] = some true := by
  unfold isiE tyN
  dsimp only
  rw [h]
  rfl
theorem isi_list {S : Store} {v : Val} (ho : Okv S v) (h : isLst v = false) : isiE S v ["list"] = some false ∨ ∃ m zs, v = .ref m ∧ S[m]? = some (.lst zs) := by
  cases v with
  | lst _ => cases h
  | ref m =>
    obtain ⟨o, e⟩ := ho
    cases o with
    | lst zs => exact .inr ⟨m, zs, rfl, e⟩
    | dct ks vs =>
      refine .inl ?_
      unfold isiE tyN
      dsimp only
      rw [e]
      rfl
  | scr _ => exact ho.elim
  | fn _ => exact ho.elim
  | exc _ _ => exact ho.elim
  | _ => exact .inl rfl
theorem sh_up {S : Store} : ∀ {k w : Nat} {v : Val}, Lf S k v → cnt v ≤ w → k ≤ 11 → Sh S 11 w v := fun h hc hk => ((h.le hk).sh).le hc
theorem allL_free {S T : Store} {k : Nat} (h : ∀ v, Lf S k v → cnt v < 190 → Lf T k v) : ∀ {xs : List Val}, AllL (Lf S k) xs → cnts xs < 190 → AllL (Lf T k) xs
  | [], _, _ => trivial
  | x :: xs, q, hc => by
    simp only [cnts] at hc
    exact ⟨h x q.1 (by omega), allL_free h q.2 (by omega)⟩
theorem Lf.free {S T : Store} : ∀ {k : Nat} {v : Val}, Lf S k v → cnt v < 190 → Lf T k v
  | 0, _, h, _ => by unfold Lf at h; exact h.elim
  | k + 1, v, h, hc => by
    have ih := fun v => Lf.free (S := S) (T := T) (k := k) (v := v)
    cases v with
    | tup xs => exact allL_free ih h hc
    | lst xs => exact allL_free ih h hc
    | ref m => exact absurd hc (by simp [cnt])
    | non => trivial
    | bl b => trivial
    | int i => exact h
    | str z => exact h
    | scr _ => exact h
    | fn _ => exact h
    | exc _ _ => exact h
theorem allL_free1 {S T : Store} {k : Nat} : ∀ {xs : List Val}, AllL (Lf S k) xs → cnts xs ≤ 190 → AllL (Lf T k) xs
  | [], _, _ => trivial
  | x :: xs, q, hc => by
    simp only [cnts] at hc
    exact ⟨q.1.free (by omega), allL_free1 q.2 (by omega)⟩
/-- what is odd, and no list that stands still, is due -/
theorem Odd.due {S : Store} {v : Val} (h : Odd S v) (hl : isLst v = false) : Due S v := by
  refine ⟨sh_up h.lf (by have := h.cn; omega) (by decide), ?_⟩
  rcases isi_list h.ok hl with e | ⟨m, zs, rfl, e⟩
  · exact .inl e
  · refine .inr ⟨m, zs, rfl, e, ?_⟩
    rcases h.lf with h1 | ⟨zs', e', h1, h2, h3⟩
    · rw [e] at h1; cases h1
    · rw [e] at e'
      cases e'
      have hm := (List.getElem?_eq_some_iff.mp e).1
      have h4 : AllL (Lf (S.set m (.lst (zs ++ [more]))) 5) (zs ++ [more]) := allL_app (allL_free1 h1 h2) ⟨⟨by decide, by decide⟩, trivial⟩
      refine ⟨by omega, ?_⟩
      have h5 := shs_cnt (S := S.set m (.lst (zs ++ [more]))) (k := 10) (fun v h => h.sh) (zs ++ [more]) (AllL.mono (fun v h => h.le (by decide)) h4)
      have h6 := sh_ref (k := 10) (List.getElem?_set_self hm) h5
      refine h6.le ?_
      rw [cnts_app]
      simp only [more, cnts, cnt]
      omega
/-- the look at what was refused -/
theorem refused_core {O : Om} {S : Store} {tr : Nat} {c : Val} {w : Str} {one other due : Val} (hw : (w.cps.toList.all fun c => decide (c < 128)) = true) (hs : w.cps.size ≤ 20) (hd : Due S due) (ht : O.call tr [c, one, other] S = .ok (.lst [.str w, due]) S) :
    runD O ⟨5, 7, L_l_refused tr⟩ [c, .str w, one, other, due] S = .ok (.bl true) S := by
  obtain ⟨z, ez⟩ := sh_word hd.sh hw hs
  refine W.eq ?_
  rw [W_run rfl]
  simp! [L_l_refused, ht, ez, str_ne]
  rcases hd.ls with e | ⟨m, zs, rfl, e, hz, hsh⟩
  · simp! [e]
  · have hm := (List.getElem?_eq_some_iff.mp e).1
    obtain ⟨z2, ez2⟩ := sh_word hsh hw hs
    have e2 : (S.set m (.lst (zs ++ [more])))[m]? = some (.lst (zs ++ [more])) := List.getElem?_set_self hm
    simp! [isi_ref e, tyOk_ref e .append rfl, show mthV .append (.ref m) [.str "more"] S = .ok .non (S.set m (.lst (zs ++ [more]))) from mth_append e (by omega) more, ez2, str_eq, tyOk_ref e2 .pop rfl, mth_pop e2, set_back e]
end GW
set_option exponentiation.threshold 20000
/-! Core 53: tables drawn, tables looked at. -/
namespace GW
open PySem
theorem Dr.put {S T : Store} {l r : Nat} {o : Ob} (D : Dr l S T) (h : S.length ≤ r) (hl : r ≠ l) : Dr l S (T.set r o) := by
  obtain ⟨p, k⟩ := D
  refine ⟨?_, fun m o' hm e => ?_⟩
  · obtain ⟨a, b, c, e, h0, h1⟩ := p
    exact ⟨a, b, c, by rw [List.getElem?_set_ne hl]; exact e, h0, h1⟩
  · have := (List.getElem?_eq_some_iff.mp e).1
    rw [List.getElem?_set_ne (by omega)]
    exact k m o' hm e
def cTable : Ct := fun f => ∀ (S : Store) (l many wide : Nat) (Q : Val → Store → Prop) (X : Xt), Purse S l → 1 ≤ many → many ≤ 12 → 1 ≤ wide → wide ≤ 12 → (∀ (rs : List (List Int)) (b : Int) (T : Store), IsTab rs b wide → rs.length = many → Bdd 110 rs.flatten b → Dr l S T → Q (tabV rs b) T) → W (f [.ref l, .int many, .int wide] S) Q X
section
variable {P : Pg} {fu d : Nat}
theorem table_at {i nu tk sh : Nat} (h : P.defs[i]? = some ⟨3, 7, L_l_table nu tk sh⟩) (hn : At P fu d nu cNumber) (ht : At P fu d tk cTake) (hs : At P fu d sh cShortT) : At P fu (d + 1) i cTable := .mk h fun n hd S l many wide Q X p m1 m2 w1 w2 hq => by
  have ht := ht n hd
  have hn := hn n hd
  rw [W_run rfl]
  simp! [L_l_table]
  refine hn S l _ _ p fun t S1 t1 D1 => ?_
  simp! [GW.W_ok]
  refine ht S1 l 4 _ _ D1.pu (by decide) (by decide) fun k S2 k1 D2 => ?_
  have hz : ∃ z : Int, 0 < z ∧ z ≤ 100 ∧ idxV (.lst [.int 1, .int 2, .int 4, .int 100]) (.int k) S2 = .ok (.int z) S2 := by
    have : k = 0 ∨ k = 1 ∨ k = 2 ∨ k = 3 := by omega
    rcases this with rfl | rfl | rfl | rfl
    · exact ⟨1, by decide, by decide, rfl⟩
    · exact ⟨2, by decide, by decide, rfl⟩
    · exact ⟨4, by decide, by decide, rfl⟩
    · exact ⟨100, by decide, by decide, rfl⟩
  obtain ⟨z, z0, z1, ez⟩ := hz
  have hm := fmod_nn (t.natAbs : Int) z0
  simp! [ez, show z ≠ 0 by omega, ne_eq, not_false_eq_true, W_rng (show many < 4611686018427387904 by omega)]
  generalize hb : 1 + (t.natAbs : Int).fmod z = b
  have b0 : 0 < b := by omega
  have b1 : b ≤ 101 := by omega
  have hr0 : S2.length ≠ l := by have := D2.pu.lt; omega
  have hS2 : S.length ≤ S2.length := by
    rcases Nat.eq_zero_or_pos S.length with h0 | h0
    · omega
    · have e := (List.getElem?_eq_some_iff (l := S) (i := S.length - 1)).mpr ⟨by omega, rfl⟩
      by_cases hh : S.length - 1 = l
      · have := D2.pu.lt; omega
      · have := (List.getElem?_eq_some_iff.mp ((D1.trans D2).kp _ _ hh e)).1
        omega
  have D0 : Dr l S (S2 ++ [.lst []]) := (D1.trans D2).trans (.app D2.pu _)
  refine WF_for (fun k en T => ∃ (rs : List (List Int)) (o5 o6 : Option Val), en = [some (.ref l), some (.int many), some (.int wide), some (.int b), some (.ref S2.length), o5, o6] ∧ rs.length = k ∧ (∀ r ∈ rs, r.length = wide) ∧ (∀ x ∈ rs.flatten, x.natAbs < 2 ^ 110) ∧ Dr l S T ∧ T[S2.length]? = some (.lst (rs.map lI))) ⟨[], _, _, rfl, rfl, by simp, by simp, D0, at_new _ _ _⟩ (fun _ _ _ _ => live_nil _) ?_ ?_
  · rintro j v en T hj ⟨rs, o5, o6, rfl, ln, hw, hns, D, e⟩
    obtain ⟨rfl, hj'⟩ := rngL_at hj
    refine ⟨_, rfl, ?_⟩
    simp! [tyOk_ref e .append rfl, W_rng (show wide < 4611686018427387904 by omega)]
    refine W_lcI _ (fun k acc T' => ∃ ns : List Int, acc = ns.map .int ∧ ns.length = k ∧ (∀ x ∈ ns, x.natAbs < 2 ^ 110) ∧ Dr l T T') (by rw [rngL_len]; omega) ⟨[], rfl, rfl, by simp, .refl D.pu⟩ (fun _ _ _ _ => live_nil _) ?_ ?_
    · rintro j2 v acc T1 hj2 ⟨ns, rfl, ln2, hns2, D3⟩
      simp! [Bool.true_eq_false, false_implies, forall_const, reduceCtorEq]
      refine hn T1 l _ _ D3.pu fun y T2 y1 D4 => ?_
      simp! [GW.W_ok]
      refine ht T2 l 4 _ _ D4.pu (by decide) (by decide) fun k T3 k1 D5 => ?_
      have hz : ∃ z : Int, z.natAbs ≤ 101 ∧ idxV (.lst [.int 0, .int 1, .int 1, .int b]) (.int k) T3 = .ok (.int z) T3 := by
        have : k = 0 ∨ k = 1 ∨ k = 2 ∨ k = 3 := by omega
        rcases this with rfl | rfl | rfl | rfl
        · exact ⟨0, by decide, rfl⟩
        · exact ⟨1, by decide, rfl⟩
        · exact ⟨1, by decide, rfl⟩
        · exact ⟨b, by omega, rfl⟩
      obtain ⟨z, z1, ez⟩ := hz
      simp! [ez, mulOk_s (x := y) (y := z) (by omega)]
      refine ⟨ns ++ [y * z], by simp, by simp [ln2], fun x hx => ?_, D3.trans (D4.trans D5)⟩
      rcases List.mem_append.mp hx with hx | hx
      · exact hns2 x hx
      · rw [List.mem_singleton.mp hx]
        exact mul_lt (n := 100) (m := 10) y1 (by omega)
    · rintro acc T1 ⟨ns, rfl, ln2, hns2, D3⟩ _
      rw [rngL_len] at ln2
      have e1 := D3.kp _ _ hr0 e
      simp! [List.length_map]
      refine ⟨by omega, ?_⟩
      simp! [mth_append e1 (show (rs.map lI).length < 1000 by rw [List.length_map]; omega)]
      refine ⟨rs ++ [ns], _, _, rfl, by simp [ln], fun r hr => ?_, fun x hx => ?_, (D.trans D3).put hS2 hr0, ?_⟩
      · rcases List.mem_append.mp hr with hr | hr
        · exact hw r hr
        · rw [List.mem_singleton.mp hr]; exact ln2
      · rw [List.flatten_append] at hx
        rcases List.mem_append.mp hx with hx | hx
        · exact hns x hx
        · simp at hx
          exact hns2 x hx
      · rw [List.getElem?_set_self (List.getElem?_eq_some_iff.mp e1).1]
        simp [lI]
  · rintro en T ⟨rs, o5, o6, rfl, ln, hw, hns, D, e⟩
    rw [rngL_len] at ln
    have bd : Bdd 110 rs.flatten b := ⟨hns, by have : (101 : Nat) < 2 ^ 110 := by decide
                                               omega⟩
    have es := hs n hd T (.ref S2.length) rs lI b (rws_ref (fun r => .inr rfl) e) (by omega) (fun r hr => by rw [hw r hr]; omega) b0 (bd.up (by decide))
    obtain ⟨ms, c, ee, r, bd', ml⟩ := shortT_is (by omega) (by omega) w1 w2 hw b0 bd
    rw [ee] at es
    simp! [es]
    exact hq ms c T r (by omega) bd' D
end
end GW
set_option exponentiation.threshold 20000
/-! Core 54: tables looked at; tables shown alike. -/
namespace GW
open PySem
def cGoodTab : Ct := fun f => ∀ (S : Store) (rs : List (List Int)) (b : Int) (w : Nat), IsTab rs b w → Bdd 9000 rs.flatten b → f [tabV rs b] S = .ok (.bl true) S
def cNums : Ct := fun f => ∀ (S : Store) (ns : List Int), 1 ≤ ns.length → ns.length ≤ 12 → (∀ x ∈ ns, x.natAbs < 2 ^ 9000) → f [.tup (ns.map .int)] S = .ok (.bl true) S
section
variable {P : Pg} {fu d : Nat}
theorem l_is_table_at {i nu an sh : Nat} (h : P.defs[i]? = some ⟨1, 2, L_l_is_table nu an sh⟩) (hn : At P fu d nu cNum) (ha : At P fu d an cNums) (hs : At P fu d sh cShortT) : At P fu (d + 1) i cGoodTab := .mk h fun n hd S rs b w r k => by
  refine W.eq ?_
  rw [W_run rfl]
  obtain ⟨r0, rt, hr0, lr0⟩ := r.head
  have l1 := r.lo
  have l2 := r.hi
  have w1 := r.wlo
  have w2 := r.whi
  have e2 := hn n hd S (.int b) k.b
  have e3 := hs n hd S (.tup (rs.map tI)) rs tI b (rws_tt S rs) (by omega) (fun r' h => by rw [r.wd r' h]; omega) r.pos k
  rw [shortT_same r.low] at e3
  have e4 := eq_tab S rs rs b b
  have c1 : (1 : Int) ≤ rs.length := by omega
  have c2 : (rs.length : Int) ≤ 12 := by omega
  have hh := fun S => head_i (S := S) hr0
  unfold tabV at *
  simp! [L_l_is_table, e2, numb, List.length_map, c1, c2, nil_ne, len_rows]
  refine W_lcI _ (fun k acc T => acc = [] ∧ T = S) (by simp; omega) ⟨rfl, rfl⟩ (fun _ _ _ _ => live_t _ _ _) ?_ ?_
  · rintro k' v acc T hk' ⟨rfl, rfl⟩
    rw [List.getElem?_map, Option.map_eq_some_iff] at hk'
    obtain ⟨x, hx, rfl⟩ := hk'
    have hxm := List.mem_of_getElem? hx
    have := ha n hd T x (by rw [r.wd x hxm]; omega) (by rw [r.wd x hxm]; omega) (bdd_row k hxm)
    change callN P fu n an [tI x] T = _ at this
    simp! [this, reduceCtorEq, false_implies]
    exact id
  · rintro acc T ⟨rfl, rfl⟩ _
    simp! [Nat.zero_le, nil_ne]
    refine W_lcI _ (fun k acc T' => acc = [] ∧ T' = T) (by simp; omega) ⟨rfl, rfl⟩ (fun _ _ _ _ => live_t _ _ _) ?_ ?_
    · rintro k' v acc T' hk' ⟨rfl, rfl⟩
      rw [List.getElem?_map, Option.map_eq_some_iff] at hk'
      obtain ⟨x, hx, rfl⟩ := hk'
      have hxm := List.mem_of_getElem? hx
      simp! [hh, len_tI', r.wd x hxm, lr0, reduceCtorEq, false_implies]
      simp
    · rintro acc T' ⟨rfl, rfl⟩ _
      simp! [Nat.zero_le, nil_ne, r.pos, e3, e4]
      simp
end
/-! shown alike -/
theorem lbs_rows {k : Nat} {rs : List (List Int)} (h : ∀ x ∈ rs.flatten, x.natAbs < 2 ^ 11900) : AllL (Lb (k + 2)) (rs.map tI) := allL_iff.mpr fun v hv => by
  obtain ⟨r, hr, rfl⟩ := List.mem_map.mp hv
  exact lbs_ints fun x hx => h x (List.mem_flatten.mpr ⟨r, hr, hx⟩)
theorem lb_tab {k : Nat} {rs : List (List Int)} {b : Int} (h : Bdd 11900 rs.flatten b) : Lb (k + 4) (tabV rs b) := ⟨lbs_rows h.ns, h.b, trivial⟩
theorem cnt_tab (rs : List (List Int)) (b : Int) (h1 : rs.length ≤ 12) (h2 : ∀ r ∈ rs, r.length ≤ 12) : cnt (tabV rs b) ≤ 200 := by
  show cnts (rs.map tI) + 1 + (0 + 1 + 0) ≤ 200
  have : ∀ rs : List (List Int), (∀ r ∈ rs, r.length ≤ 12) → cnts (rs.map tI) ≤ 13 * rs.length := by
    intro rs
    induction rs with
    | nil => intro _; simp [cnts]
    | cons r rs ih =>
      intro h
      have a := ih fun r hr => h r (List.mem_cons_of_mem _ hr)
      have b := h r (List.mem_cons_self ..)
      show cnts (r.map .int) + 1 + cnts (rs.map tI) ≤ _
      rw [cnts_ints, List.length_cons]
      omega
  have := this rs h2
  omega
/-- a table that was shortened is shown alike -/
theorem alike_short {P : Pg} {fu d i n k w : Nat} (ha : At P fu d i cAlike) (hn : d ≤ n) {rs : List (List Int)} {b : Int} (h1 : 1 ≤ rs.length) (h2 : rs.length ≤ 12) (w1 : 1 ≤ w) (w2 : w ≤ 12) (hw : ∀ r ∈ rs, r.length = w) (hb : 0 < b) (hk : Bdd k rs.flatten b) (hk2 : k ≤ 11900) (S : Store) : callN P fu n i [shortT rs b, shortT rs b] S = .ok (.bl true) S := by
  obtain ⟨ms, c, e, r, bd, _⟩ := shortT_is h1 h2 w1 w2 hw hb hk
  rw [e]
  have lb : Lb 4 (tabV ms c) := lb_tab (k := 0) (bd.up hk2)
  exact ha n hn S [.tup (ms.map tI), .int c] 4 lb (by decide) (Nat.le_trans (cnt_tab ms c r.hi fun x hx => by rw [r.wd x hx]; exact r.whi) (by decide))
theorem alike_tab {P : Pg} {fu d i n k w : Nat} (ha : At P fu d i cAlike) (hn : d ≤ n) {rs : List (List Int)} {b : Int} (r : IsTab rs b w) (hk : Bdd k rs.flatten b) (hk2 : k ≤ 11900) (S : Store) : callN P fu n i [tabV rs b, tabV rs b] S = .ok (.bl true) S := by
  have := alike_short ha hn r.lo r.hi r.wlo r.whi r.wd r.pos hk hk2 S
  rw [shortT_same r.low] at this
  exact this
end GW
set_option exponentiation.threshold 20000
/-! Core 55: tables flattened, whose rows stand in the store. -/
namespace GW
open PySem
/-- a thing that holds numbers, wherever they stand -/
def Hold (S : Store) (v : Val) (ns : List Int) : Prop := items S v = some (ns.map .int) ∧ live S [v] [ns.map .int]
theorem Nums.hold {v : Val} {ns : List Int} (h : Nums v ns) (S : Store) : Hold S v ns := ⟨h.items S, h.live S _⟩
theorem hold_ref {S : Store} {m : Nat} {ns : List Int} (e : S[m]? = some (.lst (ns.map .int))) : Hold S (.ref m) ns := ⟨by unfold items lstI; dsimp only; rw [e], fun p hp => by
  simp only [List.zip_cons_cons, List.zip_nil_right, List.mem_cons, List.not_mem_nil, or_false] at hp
  subst hp
  exact e⟩
abbrev rowsOf (ps : List (Val × List Int)) : List (List Int) := ps.map (·.2)
def cFlat : Ct := fun f => ∀ (S : Store) (v : Val) (ps : List (Val × List Int)) (b : Int), items S v = some (ps.map (·.1)) → live S [v] [ps.map (·.1)] → (∀ p ∈ ps, Hold S p.1 p.2) → ps.length < 900 → (∀ p ∈ ps, p.2.length < 900) → 0 < b → Bdd 9000 (rowsOf ps).flatten b → f [v, .int b] S = .ok (shortT (rowsOf ps) b) S
section
variable {P : Pg} {fu d : Nat}
theorem flat_at {i c : Nat} (h : P.defs[i]? = some ⟨2, 5, L_l_flat c⟩) (hf : 2 ^ 9000 ≤ fu) (hc : At P fu d c (cGcd fu)) : At P fu (d + 1) i cFlat := .mk h fun n hd S v ps b hi hl hh h1 h2 hb hk => by
  refine W.eq ?_
  rw [W_run rfl]
  have g0 := gcdL_pos (ns := (rowsOf ps).flatten) hb
  have dv := div_short hb hk.b g0 (gcdL_le hb)
  simp! [L_l_flat, hi, ex_some]
  refine WF_for (fun k en T => T = S ∧ ∃ o o', en = [some v, some (.int b), some (.int (gcdT ((rowsOf ps).take k) b)), o, o']) ⟨rfl, _, _, rfl⟩ (fun k en T h => by rw [h.1]; exact hl) ?_ ?_
  · rintro k x en T hk' ⟨rfl, o, o', rfl⟩
    rw [List.getElem?_map, Option.map_eq_some_iff] at hk'
    obtain ⟨p, hp, rfl⟩ := hk'
    have hpm := List.mem_of_getElem? hp
    refine ⟨_, rfl, ?_⟩
    obtain ⟨p1, p2⟩ := hh p hpm
    have hx := bdd_row hk (r := p.2) (List.mem_map_of_mem hpm)
    simp! [p1, ex_some]
    refine WF_for (fun m en T' => T' = T ∧ ∃ o', en = [some v, some (.int b), some (.int (gcdL (p.2.take m) (gcdT ((rowsOf ps).take k) b))), some p.1, o']) ⟨rfl, _, rfl⟩ (fun _ _ _ h => by rw [h.1]; exact p2) ?_ ?_
    · rintro m y en T' hm ⟨rfl, o', rfl⟩
      rw [List.getElem?_map, Option.map_eq_some_iff] at hm
      obtain ⟨z, hz, rfl⟩ := hm
      refine ⟨_, rfl, ?_⟩
      simp! [hc n hd T' _ z (Nat.lt_of_lt_of_le (hx z (List.mem_of_getElem? hz)) hf)]
      rw [List.take_add_one (l := p.2), hz]
      simp [gcdL, List.foldl_append]
    · rintro en T' ⟨rfl, o', rfl⟩
      rw [List.length_map, List.take_length]
      refine ⟨rfl, some p.1, o', ?_⟩
      rw [List.take_add_one (l := rowsOf ps), show (rowsOf ps)[k]? = some p.2 by rw [List.getElem?_map, hp]; rfl]
      simp [gcdT, List.foldl_append]
  · rintro en T ⟨rfl, o, o', rfl⟩
    rw [List.length_map, show ps.length = (rowsOf ps).length by simp, List.take_length, gcdT_eq]
    simp! [hi, ex_some]
    refine W_lcA ps (·.1) (fun p => tI (p.2.map fun x => x.fdiv (gcdL (rowsOf ps).flatten b))) hl (by omega) (fun r hr => by simp! [GW.W_ok]) (fun p hr => ?_) ?_
    · obtain ⟨p1, p2⟩ := hh p hr
      simp! [p1, ex_some]
      refine W_lcA p.2 Val.int (fun x => .int (x.fdiv (gcdL (rowsOf ps).flatten b))) p2 (by have := h2 p hr; omega) (fun x hx => by simp! [GW.W_ok]) (fun x hx => by simp! [dv]) ?_
      simp! [List.length_map]
      refine ⟨by have := h2 p hr; omega, ?_⟩
      simp [tI]
    · simp! [List.length_map, dv]
      refine ⟨by omega, ?_⟩
      simp [shortT, tabV, cutT, tI]
end
end GW
set_option exponentiation.threshold 20000
/-! Core 56: what is no table. -/
namespace GW
open PySem
/-- _law_no_table: 0 _law_purse_here 1 _law_table_here 2 _law_way 3 _law_at 4 _law_place 5 _law_odd 6 _law_bent 7 _law_some 8 _law_rows 9 _law_bottom 10 _law_row_here 11 _law_one -/
-- np nn = 3 12
def L_l_no_table (c_l_take : Nat) : Cs := (.cons (.tset [8, 9] (.var 1))
  (.cons (.set 3 (.call c_l_take (.cons (.var 0) (.cons (.blt .len (.cons (.var 8) .nil)) .nil))))
  (.cons (.set 4 (.call c_l_take (.cons (.var 0) (.cons (.blt .len (.cons (.idx (.var 8) (.cst (.int 0))) .nil)) .nil))))
  (.cons (.set 5 (.idx (.lsd false (.cons (.cst (.bl true)) (.cons (.cst .non) (.cons (.cst (.str "1")) (.cons (.tpd (.cons (.cst (.int 1)) .nil)) (.cons (.lsd true (.cons (.cst (.int 1)) .nil)) (.cons (.cst (.bl false)) .nil))))))) (.call c_l_take (.cons (.var 0) (.cons (.cst (.int 6)) .nil)))))
  (.cons (.set 6 (.bin .add (.bin .add (.slc (.idx (.var 8) (.var 3)) .no (.yes (.var 4))) (.tpd (.cons (.var 5) .nil))) (.slc (.idx (.var 8) (.var 3)) (.yes (.bin .add (.var 4) (.cst (.int 1)))) .no)))
  (.cons (.set 7 (.lsd false (.cons (.tpd (.cons (.bin .add (.bin .add (.slc (.var 8) .no (.yes (.var 3))) (.tpd (.cons (.var 6) .nil))) (.slc (.var 8) (.yes (.bin .add (.var 3) (.cst (.int 1)))) .no)) (.cons (.var 9) .nil))) (.cons (.tpd (.cons (.bin .add (.bin .add (.slc (.var 8) .no (.yes (.var 3))) (.tpd (.cons (.bin .add (.idx (.var 8) (.var 3)) (.tpd (.cons (.cst (.int 1)) .nil))) .nil))) (.slc (.var 8) (.yes (.var 3)) .no)) (.cons (.var 9) .nil))) .nil))))
  (.cons (.set 7 (.bin .add (.var 7) (.lsd false (.cons (.tpd (.cons (.bin .add (.bin .add (.slc (.var 8) .no (.yes (.var 3))) (.tpd (.cons (.blt .list (.cons (.idx (.var 8) (.var 3)) .nil)) .nil))) (.slc (.var 8) (.yes (.bin .add (.var 3) (.cst (.int 1)))) .no)) (.cons (.var 9) .nil))) (.cons (.tpd (.cons (.blt .list (.cons (.var 8) .nil)) (.cons (.var 9) .nil))) (.cons (.tpd (.cons (.var 8) (.cons (.cst (.int 0)) .nil))) .nil))))))
  (.cons (.set 7 (.bin .add (.var 7) (.lsd false (.cons (.tpd (.cons (.blt .tuple (.cons (.lc false (.one 10) (.val (.var 8)) .nil (.blt .tuple (.cons (.lc false (.one 11) (.val (.var 10)) .nil (.bin .mul (.cst (.int 5)) (.var 11))) .nil))) .nil)) (.cons (.bin .mul (.cst (.int 5)) (.var 9)) .nil))) (.cons (.tpd (.cons (.var 8) (.cons (.var 5) .nil))) (.cons (.tpd (.cons (.var 8) .nil)) .nil))))))
  (.cons (.set 7 (.bin .add (.var 7) (.lsd false (.cons (.tpd (.cons (.var 8) (.cons (.var 9) (.cons (.cst (.int 1)) .nil)))) (.cons (.lsd true (.cons (.var 8) (.cons (.var 9) .nil))) (.cons (.tpd (.cons (.tpd .nil) (.cons (.cst (.int 1)) .nil))) (.cons (.tpd (.cons (.tpd (.cons (.tpd .nil) .nil)) (.cons (.cst (.int 1)) .nil))) (.cons (.tpd (.cons (.tpd (.cons (.bin .mul (.tpd (.cons (.cst (.int 0)) .nil)) (.cst (.int 13))) .nil)) (.cons (.cst (.int 1)) .nil))) (.cons (.tpd (.cons (.bin .mul (.tpd (.cons (.tpd (.cons (.cst (.int 0)) .nil)) .nil)) (.cst (.int 13))) (.cons (.cst (.int 1)) .nil))) (.cons (.var 8) .nil))))))))))
  (.cons (.set 7 (.bin .add (.var 7) (.lsd false (.cons (.tpd (.cons (.bin .add (.bin .add (.slc (.var 8) .no (.yes (.var 3))) (.tpd (.cons (.tpd (.cons (.var 5) .nil)) .nil))) (.slc (.var 8) (.yes (.bin .add (.var 3) (.cst (.int 1)))) .no)) (.cons (.var 9) .nil))) (.cons (.tpd (.cons (.var 8) (.cons (.bin .sub (.cst (.int 0)) (.var 9)) .nil))) (.cons (.idx (.var 8) (.var 3)) (.cons (.var 9) (.cons (.var 5) .nil))))))))
  (.cons (.ret (.idx (.bin .add (.var 7) (.lsd false (.cons (.dcd .nil .nil) (.cons (.tpd (.cons (.var 1) (.cons (.cst (.int 1)) .nil))) (.cons (.lsd true (.cons (.var 1) .nil)) .nil))))) (.var 2)))
  .nil)))))))))))
/-- table_rows: 0 table 1 row -/
-- np nn = 1 2
def L_table_rows (c_need_table c_short_row : Nat) : Cs := (.cons (.exp (.call c_need_table (.cons (.var 0) .nil)))
  (.cons (.ret (.lc false (.one 1) (.val (.idx (.var 0) (.cst (.int 0)))) .nil (.call c_short_row (.cons (.var 1) (.cons (.idx (.var 0) (.cst (.int 1))) .nil)))))
  .nil))
def cNoTable : Ct := fun f => ∀ (S : Store) (l : Nat) (rs : List (List Int)) (b : Int) (w way : Nat) (Q : Val → Store → Prop) (X : Xt), Purse S l → IsTab rs b w → Bdd 1890 rs.flatten b → way < 23 → (∀ (v : Val) (T : Store), Dr l S T → Odd T v → isTab v = false → isLst v = false → Q v T) → W (f [.ref l, tabV rs b, .int way] S) Q X
theorem isTab_2 {a b : Val} (h : isRws a = false) : isTab (.tup [a, b]) = false := by
  refine Bool.eq_false_iff.mpr fun h' => ?_
  obtain ⟨rs, c, w, e, r⟩ := isTab_iff.mp h'
  cases e
  have := isRws_iff.mpr ⟨rs, w, rfl, r.lo, r.hi, r.wlo, r.whi, r.wd⟩
  rw [this] at h
  cases h
theorem isTab_b {a b : Val} (h : ∀ c : Int, 0 < c → b ≠ .int c) : isTab (.tup [a, b]) = false := by
  refine Bool.eq_false_iff.mpr fun h' => ?_
  obtain ⟨rs, c, w, e, r⟩ := isTab_iff.mp h'
  cases e
  exact h c r.pos rfl
theorem isTab_n {xs : List Val} (h : xs.length ≠ 2) : isTab (.tup xs) = false := by
  refine Bool.eq_false_iff.mpr fun h' => ?_
  obtain ⟨rs, c, w, e, r⟩ := isTab_iff.mp h'
  cases e
  exact h rfl
theorem isTab_x {v : Val} (h : ∀ xs, v ≠ .tup xs) : isTab v = false := by
  refine Bool.eq_false_iff.mpr fun h' => ?_
  obtain ⟨rs, c, w, e, r⟩ := isTab_iff.mp h'
  exact h _ e
theorem isTab_rows (rs : List (List Int)) : isTab (.tup (rs.map tI)) = false := by
  refine Bool.eq_false_iff.mpr fun h' => ?_
  obtain ⟨ms, c, w, e, r⟩ := isTab_iff.mp h'
  injection e with e
  match rs, e with
  | [a, b], e => simp [tI] at e
theorem isTab_ints (ns : List Int) : isTab (tI ns) = false := by
  refine Bool.eq_false_iff.mpr fun h' => ?_
  obtain ⟨ms, c, w, e, r⟩ := isTab_iff.mp h'
  injection e with e
  match ns, e with
  | [a, b], e => simp at e
theorem rws_mem {xs : List Val} {v : Val} (h : v ∈ xs) (hv : ∀ r, v ≠ tI r) : isRws (.tup xs) = false := by
  refine Bool.eq_false_iff.mpr fun h' => ?_
  obtain ⟨rs, w, e, _⟩ := isRws_iff.mp h'
  rw [e] at h
  obtain ⟨r, _, rfl⟩ := List.mem_map.mp h
  exact hv r rfl
theorem rws_two {rs : List (List Int)} {r1 r2 : List Int} (h1 : r1 ∈ rs) (h2 : r2 ∈ rs) (h : r1.length ≠ r2.length) : isRws (.tup (rs.map tI)) = false := by
  refine Bool.eq_false_iff.mpr fun h' => ?_
  obtain ⟨ms, w, e, _, _, _, _, hw⟩ := isRws_iff.mp h'
  have : rs = ms := by
    have := congrArg (List.map intsOf) e
    rwa [intsOf_map, intsOf_map] at this
  subst this
  exact h ((hw _ h1).trans (hw _ h2).symm)
theorem lfs_rows {S : Store} {k : Nat} {rs : List (List Int)} (h : ∀ x ∈ rs.flatten, x.natAbs < 2 ^ 1900) : AllL (Lf S (k + 2)) (rs.map tI) := allL_iff.mpr fun v hv => by
  obtain ⟨r, hr, rfl⟩ := List.mem_map.mp hv
  exact lfs_ints fun x hx => h x (List.mem_flatten.mpr ⟨r, hr, hx⟩)
theorem cnts_rows : ∀ {rs : List (List Int)}, (∀ r ∈ rs, r.length ≤ 12) → cnts (rs.map tI) ≤ 13 * rs.length
  | [], _ => by simp [cnts]
  | r :: rs, h => by
    have a := cnts_rows (rs := rs) fun r hr => h r (List.mem_cons_of_mem _ hr)
    have b := h r (List.mem_cons_self ..)
    show cnts (r.map .int) + 1 + cnts (rs.map tI) ≤ _
    rw [cnts_ints, List.length_cons]
    omega
theorem odd_new {S : Store} {zs : List Val} (h : AllL (Lf S 5) zs) (hc : cnts zs ≤ 190) (hl : zs.length ≤ 2) : Odd (S ++ [.lst zs]) (.ref S.length) := ⟨.inr ⟨zs, at_new _ _ _, AllL.mono (fun v h => h.app _) h, hc, hl⟩, show 190 ≤ 400 by decide⟩
theorem mkd0 (S : Store) : mkD [] [] S = .ok (.ref S.length) (S ++ [.dct [] []]) := rfl
section
variable {P : Pg} {fu d : Nat}
theorem no_table_at {i tk : Nat} (h : P.defs[i]? = some ⟨3, 12, L_l_no_table tk⟩) (ht : At P fu d tk cTake) : At P fu (d + 1) i cNoTable := .mk h fun n hd S l rs b w way Q X p r bd hw hq => by
  have ht := ht n hd
  have r1 := r.lo
  have r2 := r.hi
  have w1 := r.wlo
  have w2 := r.whi
  have r3 := r.pos
  have n9 : ∀ x ∈ rs.flatten, x.natAbs < 2 ^ 1900 := fun x hx => pow_up (bd.ns x hx) (by decide)
  have b9 : b.natAbs < 2 ^ 1900 := pow_up bd.b (by decide)
  obtain ⟨m0, mt, hm0, lm0⟩ := r.head
  have hh := fun S => head_i (S := S) hm0
  rw [W_run rfl]
  simp! [L_l_no_table, tabV, putT, List.zip_cons_cons, List.zip_nil_right, List.foldl_cons, List.foldl_nil, List.length_map]
  refine ht S l rs.length _ _ p (by omega) (by omega) fun at' S1 k1 D1 => ?_
  simp! [hh, len_tI', lm0]
  refine ht S1 l w _ _ D1.pu (by omega) (by omega) fun place S2 k2 D2 => ?_
  obtain ⟨v1, T1, e1, o1, f1, c1, l1, g1⟩ := mkL_odd true (zs := [.int 1]) S2 (by walk_at "lfw") (by walk_at "cnw") (by simp)
  simp! [e1]
  have l1 := l1 2 (by walk_at "lfw")
  have p1 := D2.pu.app T1
  have D1' := (D1.trans D2).trans (Dr.app D2.pu T1)
  generalize S2 ++ T1 = U1 at e1 o1 p1 D1' l1
  refine ht U1 l 6 _ _ p1 (by decide) (by decide) fun k S3 k3 D3 => ?_
  have hodd : ∃ odd, idxV (.lst [.bl true, .non, .str "1", .tup [.int 1], v1, .bl false]) (.int k) S3 = .ok odd S3 ∧ Odd S3 odd ∧ Lf S3 3 odd ∧ cnt odd ≤ 190 ∧ numb odd = false ∧ isTab odd = false ∧ isLst odd = false := by
    have hA : ∀ v ∈ ([.bl true, .non, .str "1", .tup [.int 1], v1, .bl false] : List Val), Odd S3 v ∧ Lf S3 3 v ∧ cnt v ≤ 190 ∧ numb v = false ∧ isTab v = false ∧ isLst v = false := by
      simp only [List.mem_cons, List.not_mem_nil, or_false]
      rintro v (rfl | rfl | rfl | rfl | rfl | rfl)
      · exact ⟨⟨by walk_at "lfw", by walk_at "cnw"⟩, by walk_at "lfw", by walk_at "cnw", rfl, rfl, rfl⟩
      · exact ⟨⟨by walk_at "lfw", by walk_at "cnw"⟩, by walk_at "lfw", by walk_at "cnw", rfl, rfl, rfl⟩
      · exact ⟨⟨by walk_at "lfw", by walk_at "cnw"⟩, by walk_at "lfw", by walk_at "cnw", rfl, rfl, rfl⟩
      · exact ⟨⟨by walk_at "lfw", by walk_at "cnw"⟩, by walk_at "lfw", by walk_at "cnw", rfl, isTab_n (by simp), rfl⟩
      · exact ⟨o1.dr p1 D3, l1.dr p1 D3, c1, ref_numb f1, isTab_x (fun xs e => by rw [e] at f1; cases f1), g1 rfl⟩
      · exact ⟨⟨by walk_at "lfw", by walk_at "cnw"⟩, by walk_at "lfw", by walk_at "cnw", rfl, rfl, rfl⟩
    have hg : ([.bl true, .non, .str "1", .tup [.int 1], v1, .bl false] : List Val)[k]? = some (([.bl true, .non, .str "1", .tup [.int 1], v1, .bl false] : List Val)[k]'(by simp; omega)) := List.getElem?_eq_getElem _
    exact ⟨_, idx_lstN hg, hA _ (List.getElem_mem _)⟩
  obtain ⟨odd, eo, oo, ol, oc, on, orw, og⟩ := hodd
  have hat : at' < rs.length := by omega
  have hrm : rs.getD at' [] ∈ rs := by simp [hat]
  have lr := r.wd _ hrm
  have hgr : (rs.map tI)[at']? = some (tI (rs.getD at' [])) := by
    rw [List.getElem?_map, List.getElem?_eq_getElem hat]
    simp [hat]
  generalize hrow : rs.getD at' [] = row at *
  have rw9 : ∀ x ∈ row, x.natAbs < 2 ^ 1900 := fun x hx => n9 x (List.mem_flatten.mpr ⟨row, hrm, hx⟩)
  simp! [eo, W_idxTN hgr, tI, W_slcT_to, W_slcT_from, W_slcT_from1, List.length_map, List.length_append, List.length_take, List.length_drop]
  refine ⟨by omega, by omega, by omega, by omega, by omega, by omega, by omega, by omega, by omega, by omega, by omega, ?_⟩
  refine W_lcA rs tI (fun r => tI (r.map fun z => 5 * z)) (live_t _ _ _) (by omega) (fun z hz => by simp! [GW.W_ok]) (fun z hz => ?_) ?_
  · simp! [tI]
    refine W_lcA z Val.int (fun z => .int (5 * z)) (live_t _ _ _) (by rw [r.wd z hz]; omega) (fun z hz => by simp! [GW.W_ok]) (fun y hy => by simp! [mulOk_p (i := 5) (j := y) (n := 3) (m := 1890) (by decide) (bdd_row bd hz _ hy) (by decide)]) ?_
    simp! [List.length_map]
    refine ⟨by rw [r.wd z hz]; omega, ?_⟩
    show Val.tup _ = Val.tup _
    rw [List.map_map]
    rfl
  simp! [mulOk_p (i := 5) (j := b) (n := 3) (m := 1890) (by decide) bd.b (by decide), List.length_map]
  refine ⟨by omega, ?_⟩
  have ck := cnts_rows (rs := rs) (fun x hx => by rw [r.wd x hx]; exact w2)
  have o2 : Odd (S3 ++ [.lst [.tup (rs.map tI), .int b]]) (.ref S3.length) := odd_new ⟨lfs_rows n9, b9, trivial⟩ (by simp only [cnts, cnt]; omega) (by simp)
  have o4 : Odd (S3 ++ [.lst [.tup (rs.map tI), .int b]] ++ [.dct [] []] ++ [.lst [.tup [.tup (rs.map tI), .int b]]]) (.ref (S3 ++ [.lst [.tup (rs.map tI), .int b]] ++ [.dct [] []] : Store).length) := odd_new ⟨⟨lfs_rows n9, b9, trivial⟩, trivial⟩ (by simp only [cnts, cnt]; omega) (by simp)
  simp! [List.length_map, tI, W_slcT_to, W_slcT_from, W_slcT_from1, W_idxTN hgr, List.length_append, List.length_take, List.length_drop, W_mulT (x := .int 0) (n := 13) (by decide) (by decide), W_mulT (x := .tup [.int 0]) (n := 13) (by decide) (by decide), mkd0]
  refine ⟨by omega, by omega, ?_⟩
  have e3 : (S3 ++ [Ob.lst [.tup (rs.map tI), .int b]] ++ [.dct [] []])[S3.length + 1]? = some (.dct [] []) := by
    have := at_new (S3 ++ [Ob.lst [.tup (rs.map tI), .int b]]) (.dct [] []) []
    simpa using this
  have o3 : Odd (S3 ++ [Ob.lst [.tup (rs.map tI), .int b]] ++ [.dct [] []]) (.ref (S3.length + 1)) := ⟨.inl e3, show 190 ≤ 400 by decide⟩
  rw [show (S3 ++ [.lst [.tup (rs.map tI), .int b]] ++ [.dct [] []] : Store).length = S3.length + 1 + 1 by simp] at o4
  have o2' := (o2.app [.dct [] []]).app [.lst [.tup [.tup (rs.map tI), .int b]]]
  have o3' := o3.app [.lst [.tup [.tup (rs.map tI), .int b]]]
  have oo' := ((oo.app [.lst [.tup (rs.map tI), .int b]]).app [.dct [] []]).app [.lst [.tup [.tup (rs.map tI), .int b]]]
  have ol' := ((ol.app [.lst [.tup (rs.map tI), .int b]]).app [.dct [] []]).app [.lst [.tup [.tup (rs.map tI), .int b]]]
  have D' : Dr l S (S3 ++ [.lst [.tup (rs.map tI), .int b]] ++ [.dct [] []] ++ [.lst [.tup [.tup (rs.map tI), .int b]]]) := D1'.trans (D3.trans (((Dr.app D3.pu _).trans (Dr.app (D3.pu.app _) _)).trans (Dr.app ((D3.pu.app _).app _) _)))
  generalize S3 ++ [Ob.lst [.tup (rs.map tI), .int b]] ++ [.dct [] []] ++ [.lst [.tup [.tup (rs.map tI), .int b]]] = U at o2' o3' oo' ol' D' o4
  have key : ∀ A : List Val, A.length = 23 → (∀ v ∈ A, Odd U v ∧ isTab v = false ∧ isLst v = false) → W (idxV (.lst A) (.int way) U) Q X := fun A hl hA => by
    have hg : A[way]? = some (A[way]'(by omega)) := List.getElem?_eq_getElem _
    have hm := hA _ (List.getElem_mem (show way < A.length by omega))
    rw [W_idxLN hg]
    exact hq _ _ D' hm.1 hm.2.1 hm.2.2
  have lr9 : ∀ {k : Nat}, AllL (Lf U (k + 2)) (rs.map tI) := lfs_rows n9
  have lrow : ∀ {k : Nat}, AllL (Lf U (k + 1)) (row.map .int) := lfs_ints rw9
  have mem := allL_iff.mp (lr9 (k := 2))
  have tk : ∀ {k : Nat} (m : Nat), AllL (Lf U (k + 2)) ((rs.map tI).take m) := fun m => allL_iff.mpr fun v hv => allL_iff.mp lr9 v (List.mem_of_mem_take hv)
  have dr : ∀ {k : Nat} (m : Nat), AllL (Lf U (k + 2)) ((rs.map tI).drop m) := fun m => allL_iff.mpr fun v hv => allL_iff.mp lr9 v (List.mem_of_mem_drop hv)
  have ct : ∀ m, cnts ((rs.map tI).take m) ≤ 156 := fun m => by
    rw [← List.map_take]
    have := cnts_rows (rs := rs.take m) (fun x hx => by rw [r.wd x (List.mem_of_mem_take hx)]; exact w2)
    have : (rs.take m).length ≤ 12 := by rw [List.length_take]; omega
    omega
  have cb : ∀ m m' : Nat, m ≤ m' → cnts ((rs.map tI).take m) + cnts ((rs.map tI).drop m') ≤ 156 := fun m m' hm => by
    rw [← List.map_take, ← List.map_drop]
    have a1 := cnts_rows (rs := rs.take m) (fun x hx => by rw [r.wd x (List.mem_of_mem_take hx)]; exact w2)
    have a2 := cnts_rows (rs := rs.drop m') (fun x hx => by rw [r.wd x (List.mem_of_mem_drop hx)]; exact w2)
    have : (rs.take m).length + (rs.drop m').length ≤ 12 := by rw [List.length_take, List.length_drop]; omega
    have := Nat.mul_le_mul_left 13 this
    omega
  have crow : cnts (row.map .int) ≤ 12 := by rw [cnts_ints, lr]; exact w2
  have notI : ∀ (zs : List Val) (z : Val), z ∈ zs → numb z = false → ∀ r, Val.tup zs ≠ tI r := fun zs z hz hn r e => by
    injection e with e
    rw [e] at hz
    obtain ⟨y, _, rfl⟩ := List.mem_map.mp hz
    cases hn
  have inm : ∀ (z : Val) (m m' : Nat), z ∈ (rs.map tI).take m ++ [z] ++ (rs.map tI).drop m' := fun z m m' => by simp
  refine key _ rfl ?_
  simp only [List.mem_cons, List.not_mem_nil, or_false]
  rintro v (rfl | rfl | rfl | rfl | rfl | rfl | rfl | rfl | rfl | rfl | rfl | rfl | rfl | rfl | rfl | rfl | rfl | rfl | rfl | rfl | rfl | rfl | rfl)
  · refine ⟨⟨⟨allL_app (allL_app (tk _) ⟨allL_app (allL_app ?_ ⟨ol', trivial⟩) ?_, trivial⟩) (dr _), b9, trivial⟩, ?_⟩, isTab_2 (rws_mem (inm _ _ _) (notI _ odd (by simp) on)), rfl⟩
    · rw [← List.map_take]; exact lfs_ints fun x hx => rw9 x (List.mem_of_mem_take hx)
    · rw [← List.map_drop]; exact lfs_ints fun x hx => rw9 x (List.mem_of_mem_drop hx)
    · have := cb at' (at' + 1) (by omega)
      simp only [cnt, cnts, cnts_app, ← List.map_take, ← List.map_drop, cnts_ints, List.length_take, List.length_drop] at this ⊢
      omega
  · refine ⟨⟨⟨allL_app (allL_app (tk _) ⟨allL_app lrow ⟨k19 (by decide), trivial⟩, trivial⟩) (dr _), b9, trivial⟩, ?_⟩, isTab_2 ?_, rfl⟩
    · have := cb at' at' (by omega)
      simp only [cnt, cnts, cnts_app] at this ⊢
      omega
    · have e : (rs.map tI).take at' ++ [.tup (row.map .int ++ [.int 1])] ++ (rs.map tI).drop at' = (rs.take at' ++ [row ++ [1]] ++ rs.drop at').map tI := by simp [tI]
      rw [e]
      refine rws_two (r1 := row ++ [1]) (r2 := row) (by simp) ?_ (by simp)
      refine List.mem_append.mpr (.inr ?_)
      have hx : row = rs[at'] := by rw [← hrow]; simp [hat]
      rw [List.drop_eq_getElem_cons hat, hx]
      exact List.mem_cons_self ..
  · refine ⟨⟨⟨allL_app (allL_app (tk _) ⟨lrow, trivial⟩) (dr _), b9, trivial⟩, ?_⟩, isTab_2 (rws_mem (inm _ _ _) (fun r e => by cases e)), rfl⟩
    have := cb at' (at' + 1) (by omega)
    simp only [cnt, cnts, cnts_app] at this ⊢
    omega
  · exact ⟨⟨⟨lr9, b9, trivial⟩, by simp only [cnt, cnts]; omega⟩, isTab_2 rfl, rfl⟩
  · exact ⟨⟨⟨lr9, k19 (by decide), trivial⟩, by simp only [cnt, cnts]; omega⟩, isTab_b (fun c hc e => by injection e with e; omega), rfl⟩
  · have e : rs.map (fun r => Val.tup ((r.map fun z => 5 * z).map Val.int)) = (rs.map fun r => r.map (· * 5)).map tI := by
      rw [List.map_map]
      refine List.map_congr_left fun r _ => ?_
      show tI _ = tI _
      congr 1
      exact List.map_congr_left fun z _ => Int.mul_comm _ _
    rw [e]
    have f5 : (rs.map fun r => r.map (· * 5)).flatten = rs.flatten.map (· * 5) := by rw [List.map_flatten]
    refine ⟨⟨⟨lfs_rows (fun x hx => ?_), ?_, trivial⟩, ?_⟩, ?_, rfl⟩
    · rw [f5] at hx
      obtain ⟨y, hy, rfl⟩ := List.mem_map.mp hx
      have := bd.ns y hy
      have h2 : (2 : Nat) ^ 1890 * 5 ≤ 2 ^ 1900 := by decide
      show (y * 5).natAbs < _
      omega
    · have := bd.b
      have h2 : (2 : Nat) ^ 1890 * 5 ≤ 2 ^ 1900 := by decide
      show (5 * b).natAbs < _
      omega
    · have := cnts_rows (rs := rs.map fun r => r.map (· * 5)) (fun x hx => by
        obtain ⟨y, hy, rfl⟩ := List.mem_map.mp hx
        rw [List.length_map, r.wd y hy]; exact w2)
      rw [List.length_map] at this
      simp only [cnt, cnts]
      omega
    · refine Bool.eq_false_iff.mpr fun h' => ?_
      obtain ⟨ms, c, w', e', r'⟩ := isTab_iff.mp h'
      have e1 : (rs.map fun r => r.map (· * 5)) = ms ∧ 5 * b = c := by
        unfold tabV at e'
        injection e' with e'
        injection e' with ea eb
        injection ea with ea
        injection eb with eb
        injection eb with eb
        have := congrArg (List.map intsOf) ea
        rw [intsOf_map, intsOf_map] at this
        exact ⟨this, eb⟩
      obtain ⟨rfl, rfl⟩ := e1
      have g := gcdL_mul rs.flatten b 5 (by decide) (by omega)
      have low := r'.low
      rw [f5, Int.mul_comm 5 b, g, r.low] at low
      omega
  · exact ⟨⟨⟨lr9, ol'.le (by decide), trivial⟩, by simp only [cnt, cnts]; omega⟩, isTab_b (fun c hc e => by rw [e] at on; cases on), rfl⟩
  · exact ⟨⟨⟨lr9, trivial⟩, by simp only [cnt, cnts]; omega⟩, isTab_n (by simp), rfl⟩
  · exact ⟨⟨⟨lr9, b9, k19 (by decide), trivial⟩, by simp only [cnt, cnts]; omega⟩, isTab_n (by simp), rfl⟩
  · exact ⟨o2', isTab_x (fun xs e => by cases e), rfl⟩
  · exact ⟨⟨by walk_at "lfw", by walk_at "cnw"⟩, isTab_2 rfl, rfl⟩
  · exact ⟨⟨by walk_at "lfw", by walk_at "cnw"⟩, isTab_2 rfl, rfl⟩
  · exact ⟨⟨by walk_at "lfw", by decide⟩, isTab_2 rfl, rfl⟩
  · exact ⟨⟨by walk_at "lfw", by decide⟩, isTab_2 rfl, rfl⟩
  · exact ⟨⟨lr9, by simp only [cnt]; omega⟩, isTab_rows rs, rfl⟩
  · refine ⟨⟨⟨allL_app (allL_app (tk _) ⟨⟨ol', trivial⟩, trivial⟩) (dr _), b9, trivial⟩, ?_⟩, isTab_2 (rws_mem (inm _ _ _) (notI _ odd (by simp) on)), rfl⟩
    have := cb at' (at' + 1) (by omega)
    simp only [cnt, cnts, cnts_app] at this ⊢
    omega
  · exact ⟨⟨⟨lr9, (show (0 - b).natAbs < 2 ^ 1900 by omega), trivial⟩, by simp only [cnt, cnts]; omega⟩, isTab_b (fun c hc e => by injection e with e; omega), rfl⟩
  · exact ⟨⟨lrow, by simp only [cnt]; omega⟩, isTab_ints row, rfl⟩
  · exact ⟨⟨b9, by walk_at "cnw"⟩, rfl, rfl⟩
  · exact ⟨oo', orw, og⟩
  · exact ⟨o3', isTab_x (fun xs e => by cases e), rfl⟩
  · exact ⟨⟨⟨⟨lr9, b9, trivial⟩, k19 (by decide), trivial⟩, by simp only [cnt, cnts]; omega⟩, isTab_2 (rws_mem (v := .int b) (by simp) (fun r e => by cases e)), rfl⟩
  · exact ⟨o4, isTab_x (fun xs e => by cases e), rfl⟩
end
end GW
set_option exponentiation.threshold 20000
/-! Core 57: tables told. -/
namespace GW
open PySem
/-- table_of: 0 rows 1 bottom 2 row 3 number -/
-- np nn = 1 4
def L_table_of (c_is_row c_common_part c_short_table k_1 : Nat) : Cs := (.cons (.ife (.or (.not (.isi (.var 0) ["list", "tuple"])) (.or (.not (.chn .le .le (.cst (.int 1)) (.blt .len (.cons (.var 0) .nil)) (.glo "MOST" (.int 12)))) (.not (.blt .all (.cons (.lc false (.one 2) (.val (.var 0)) .nil (.call c_is_row (.cons (.var 2) .nil))) .nil))))) (.cons (.rai k_1 (.cons (.var 0) .nil))
    .nil) .nil)
  (.cons (.ife (.not (.blt .all (.cons (.lc false (.one 2) (.val (.var 0)) .nil (.cmp .eq (.blt .len (.cons (.idx (.var 2) (.cst (.int 0))) .nil)) (.blt .len (.cons (.idx (.idx (.var 0) (.cst (.int 0))) (.cst (.int 0))) .nil)))) .nil))) (.cons (.rai k_1 (.cons (.var 0) .nil))
    .nil) .nil)
  (.cons (.set 1 (.cst (.int 1)))
  (.cons (.forr (.one 2) (.val (.var 0)) (.cons (.set 1 (.bin .div (.bin .mul (.var 1) (.idx (.var 2) (.cst (.int 1)))) (.call c_common_part (.cons (.var 1) (.cons (.idx (.var 2) (.cst (.int 1))) .nil)))))
    .nil))
  (.cons (.ret (.call c_short_table (.cons (.lc false (.one 2) (.val (.var 0)) .nil (.lc false (.one 3) (.val (.idx (.var 2) (.cst (.int 0)))) .nil (.bin .mul (.var 3) (.bin .div (.var 1) (.idx (.var 2) (.cst (.int 1))))))) (.cons (.var 1) .nil))))
  .nil)))))
/-- table_rows: 0 table 1 row -/
-- np nn = 1 2
def L_table_rowsR (c_need_table c_short_row : Nat) : Cs := (.cons (.exp (.call c_need_table (.cons (.var 0) .nil)))
  (.cons (.ret (.lc true (.one 1) (.val (.idx (.var 0) (.cst (.int 0)))) .nil (.call c_short_row (.cons (.var 1) (.cons (.idx (.var 0) (.cst (.int 1))) .nil)))))
  .nil))
/-- nought_table: 0 many -/
-- np nn = 1 1
def L_nought_table (c_need_many : Nat) : Cs := (.cons (.exp (.call c_need_many (.cons (.var 0) .nil)))
  (.cons (.ret (.tpd (.cons (.bin .mul (.tpd (.cons (.bin .mul (.tpd (.cons (.cst (.int 0)) .nil)) (.var 0)) .nil)) (.var 0)) (.cons (.cst (.int 1)) .nil))))
  .nil))
/-- unit_table: 0 many 1 place 2 at -/
-- np nn = 1 3
def L_unit_table (c_need_many : Nat) : Cs := (.cons (.exp (.call c_need_many (.cons (.var 0) .nil)))
  (.cons (.ret (.tpd (.cons (.blt .tuple (.cons (.lc false (.one 1) (.rng1 (.var 0)) .nil (.blt .tuple (.cons (.lc false (.one 2) (.rng1 (.var 0)) .nil (.blt .int (.cons (.cmp .eq (.var 2) (.var 1)) .nil))) .nil))) .nil)) (.cons (.cst (.int 1)) .nil))))
  .nil))
/-- _law_due: 0 _law_rows 1 _law_bottom 2 _law_numbers 3 _law_under 4 _law_number_here -/
-- np nn = 1 5
def L_t_due (c_l_common c_l_flat : Nat) : Cs := (.cons (.set 1 (.cst (.int 1)))
  (.cons (.forr (.tup [2, 3]) (.val (.var 0)) (.cons (.set 1 (.bin .div (.bin .mul (.var 1) (.var 3)) (.call c_l_common (.cons (.var 1) (.cons (.var 3) .nil)))))
    .nil))
  (.cons (.ret (.call c_l_flat (.cons (.lc false (.tup [2, 3]) (.val (.var 0)) .nil (.lc false (.one 4) (.val (.var 2)) .nil (.bin .mul (.var 4) (.bin .div (.var 1) (.var 3))))) (.cons (.var 1) .nil))))
  .nil)))
/-- _law_tried: 0 _law_call 1 _law_thing 2 _law_told 3 e -/
-- np nn = 2 4
def L_t_tried : Cs := (.cons (.set 2 (.cst .non))
  (.cons (.tri (.cons (.set 2 (.callv 0 (.cons (.var 1) .nil)))
    .nil) (.cons 1 (some 3) (.cons (.set 2 (.lsd false (.cons (.cst (.str "table")) (.cons (.efl 4 1 0) .nil))))
    .nil) (.cons 2 (some 3) (.cons (.set 2 (.lsd false (.cons (.cst (.str "number")) (.cons (.efl 4 2 0) .nil))))
    .nil) (.cons 0 none (.cons (.set 2 (.lsd false (.cons (.cst (.str "other")) .nil)))
    .nil) .nil))))
  (.cons (.ret (.var 2))
  .nil)))
/-- _law_refused: 0 _law_call 1 _law_word 2 _law_due_here 3 _law_told 4 _law_same_here -/
-- np nn = 3 5
def L_t_refused (c_l_tried : Nat) : Cs := (.cons (.set 3 (.call c_l_tried (.cons (.var 0) (.cons (.var 2) .nil))))
  (.cons (.ife (.or (.not (.isi (.var 3) ["list"])) (.cmp .ne (.blt .repr (.cons (.var 3) .nil)) (.blt .repr (.cons (.lsd false (.cons (.var 1) (.cons (.var 2) .nil))) .nil)))) (.cons (.ret (.cst (.bl false)))
    .nil) .nil)
  (.cons (.ife (.isi (.var 2) ["list"]) (.cons (.exp (.mth .append (.var 2) (.cons (.cst (.str "more")) .nil)))
    (.cons (.set 4 (.cmp .eq (.blt .repr (.cons (.var 3) .nil)) (.blt .repr (.cons (.lsd false (.cons (.var 1) (.cons (.var 2) .nil))) .nil))))
    (.cons (.exp (.mth .pop (.var 2) .nil))
    (.cons (.ret (.var 4))
    .nil)))) .nil)
  (.cons (.ret (.cst (.bl true)))
  .nil))))
def unitT (w : Nat) : List (List Int) := (List.range w).map fun i => (List.range w).map fun j => if j = i then 1 else 0
def noughtT (m w : Nat) : List (List Int) := List.replicate m (List.replicate w 0)
theorem low_one (ns : List Int) : gcdL ns 1 = 1 := by
  have h := (gcdL_dvd ns 1).1
  have g := gcdL_pos (ns := ns) (b := 1) (by decide)
  have := Int.le_of_dvd (by decide) h
  omega
theorem nought_tab {m w : Nat} (m1 : 1 ≤ m) (m2 : m ≤ 12) (w1 : 1 ≤ w) (w2 : w ≤ 12) : IsTab (noughtT m w) 1 w := ⟨by simpa [noughtT] using m1, by simpa [noughtT] using m2, w1, w2, fun r hr => by rw [(List.mem_replicate.mp hr).2]; simp, by decide, low_one _⟩
theorem one_lt (k : Nat) (hk : 1 ≤ k) : (1 : Int).natAbs < 2 ^ k := pow_up (k := 1) (by decide) hk
theorem zero_lt (k : Nat) : (0 : Int).natAbs < 2 ^ k := Nat.pow_pos (by decide)
theorem nought_bd (m w k : Nat) (hk : 1 ≤ k) : Bdd k (noughtT m w).flatten 1 := ⟨fun x hx => by
  obtain ⟨r, hr, hx⟩ := List.mem_flatten.mp hx
  rw [(List.mem_replicate.mp hr).2] at hx
  rw [(List.mem_replicate.mp hx).2]
  exact zero_lt k, one_lt k hk⟩
theorem unit_tab {w : Nat} (w1 : 1 ≤ w) (w2 : w ≤ 12) : IsTab (unitT w) 1 w := ⟨by simpa [unitT] using w1, by simpa [unitT] using w2, w1, w2, fun r hr => by
  obtain ⟨i, _, rfl⟩ := List.mem_map.mp hr
  simp, by decide, low_one _⟩
theorem unit_bd (w k : Nat) (hk : 1 ≤ k) : Bdd k (unitT w).flatten 1 := ⟨fun x hx => by
  obtain ⟨r, hr, hx⟩ := List.mem_flatten.mp hx
  obtain ⟨i, _, rfl⟩ := List.mem_map.mp hr
  obtain ⟨j, _, rfl⟩ := List.mem_map.mp hx
  split
  · exact one_lt k hk
  · exact zero_lt k, one_lt k hk⟩
theorem mul_t {S : Store} {x : Val} {k : Nat} (h : k ≤ 12) : bopV .mul (.tup [x]) (.int k) S = .ok (.tup (List.replicate k x)) S := by
  have := W_mulT (x := x) (n := (k : Int)) (S := S) (Q := fun v T => v = .tup (List.replicate k x) ∧ T = S) (X := nX) (by omega) (by omega)
  rw [Int.toNat_natCast] at this
  obtain ⟨v, T, e, rfl, rfl⟩ := W.get (this.mpr ⟨rfl, rfl⟩)
  exact e
theorem nought_v (m w : Nat) : Val.tup [.tup (List.replicate m (.tup (List.replicate w (.int 0)))), .int 1] = tabV (noughtT m w) 1 := by simp [tabV, noughtT, tI]
structure cMade (k : Nat) (t : Nat → List (List Int)) (f : List Val → Store → Res Val) : Prop where
  bad : ∀ S v, Okv S v → isWh 1 12 v = false → f [v] S = .exc k [v] S
  ok : ∀ S (m : Nat), 1 ≤ m → m ≤ 12 → f [.int m] S = .ok (tabV (t m) 1) S
/-- a table's rows, a new list: each in lowest terms -/
structure cTabRows (k : Nat) (f : List Val → Store → Res Val) : Prop where
  bad : ∀ S v, Okv S v → isTab v = false → f [v] S = .exc k [v] S
  ok : ∀ S rs b w, IsTab rs b w → Bdd 8000 rs.flatten b → f [tabV rs b] S = .ok (.ref S.length) (S ++ [.lst (rs.map fun r => shortV r b)])
section
variable {P : Pg} {fu d : Nat}
theorem nought_table_at {i nm k : Nat} (h : P.defs[i]? = some ⟨1, 1, L_nought_table nm⟩) (hm : At P fu d nm (cNeed (isWh 1 12) k)) : At P fu (d + 1) i (cMade k fun m => noughtT m m) := .mk h fun n hd => by
  have hm := hm n hd
  refine ⟨fun S v hv hw => ?_, fun S m m1 m2 => ?_⟩
  · have e := hm S v hv
    rw [hw] at e
    simp at e
    simp [runD, L_nought_table, start0, e]
  · have e := hm S (.int m) (k9 (by omega))
    rw [show isWh 1 12 (.int m) = true by simp [isWh]; omega] at e
    simp only [if_true] at e
    refine W.eq ?_
    rw [W_run rfl]
    simp! [L_nought_table, e, mul_t m2, nought_v]
theorem unit_table_at {i nm k : Nat} (h : P.defs[i]? = some ⟨1, 3, L_unit_table nm⟩) (hm : At P fu d nm (cNeed (isWh 1 12) k)) : At P fu (d + 1) i (cMade k unitT) := .mk h fun n hd => by
  have hm := hm n hd
  refine ⟨fun S v hv hw => ?_, fun S m m1 m2 => ?_⟩
  · have e := hm S v hv
    rw [hw] at e
    simp at e
    simp [runD, L_unit_table, start0, e]
  · have e := hm S (.int m) (k9 (by omega))
    rw [show isWh 1 12 (.int m) = true by simp [isWh]; omega] at e
    simp only [if_true] at e
    refine W.eq ?_
    rw [W_run rfl]
    have er : rngL 0 m = (List.range m).map fun (j : Nat) => Val.int j := by
      unfold rngL
      simp
    simp! [L_unit_table, e, W_rng (show m < 4611686018427387904 by omega), er]
    refine W_lcA (List.range m) (fun (j : Nat) => Val.int j) (fun i => tI ((List.range m).map fun j => if j = i then 1 else 0)) (live_nil _) (by simp; omega) (fun x hx => by simp! [GW.W_ok]) (fun i hi => ?_) ?_
    · simp! [W_rng (show m < 4611686018427387904 by omega), er]
      refine W_lcA (List.range m) (fun (j : Nat) => Val.int j) (fun j => .int (if j = i then 1 else 0)) (live_nil _) (by simp; omega) (fun x hx => by simp! [GW.W_ok]) (fun i2 hi => ?_) ?_
      · simp! [GW.W_ok]
        by_cases h : i2 = i <;> simp [h] <;> omega
      · simp! [List.length_map, List.length_range]
        refine ⟨by omega, ?_⟩
        simp [tI]
    simp! [List.length_map, List.length_range]
    refine ⟨by omega, ?_⟩
    simp [tabV, unitT]
theorem table_rows_at {i nt sh k : Nat} (h : P.defs[i]? = some ⟨1, 2, L_table_rowsR nt sh⟩) (hn : At P fu d nt (cNeed isTab k)) (hs : At P fu d sh cShort) : At P fu (d + 1) i (cTabRows k) := .mk h fun n hd => by
  have hn := hn n hd
  refine ⟨fun S v hv rv => ?_, fun S rs b w r q => ?_⟩
  · have e := hn S v hv
    rw [rv] at e
    simp at e
    simp [runD, L_table_rowsR, start0, e]
  · have e := hn S _ (q.okT (by decide) S)
    rw [r.is] at e
    simp only [if_true] at e
    refine W.eq ?_
    rw [W_run rfl]
    have l2 := r.hi
    have w2 := r.whi
    simp! [L_table_rowsR, e]
    simp! [tabV]
    refine W_lcA rs tI (fun x => shortV x b) (live_t _ _ _) (by omega) (fun x hx => by simp! [GW.W_ok]) (fun x hx => ?_) ?_
    · have es := hs n hd S (tI x) x b (.inl rfl) (by rw [r.wd x hx]; omega) r.pos ⟨fun y hy => pow_up (bdd_row q hx y hy) (by decide), pow_up q.b (by decide)⟩
      simp! [tabV, es]
    simp! [List.length_map]
    exact Nat.le_trans l2 (by decide)
end
end GW
namespace GW
open PySem
/-! rows over the least bottom -/
def rowP (p : List Int × Int) : Val := rowV p.1 p.2
/-- the bottoms, as ratios' bottoms -/
def bots (ps : List (List Int × Int)) : List (Int × Int) := ps.map fun p => (1, p.2)
structure Rows (k : Nat) (ps : List (List Int × Int)) (w : Nat) : Prop where
  lo : 1 ≤ ps.length
  hi : ps.length ≤ 12
  rt : ∀ p ∈ ps, IsRow p.1 p.2
  wd : ∀ p ∈ ps, p.1.length = w
  bd : ∀ p ∈ ps, Bdd k p.1 p.2
def overT (ps : List (List Int × Int)) (b : Int) : List (List Int) := ps.map fun p => p.1.map fun x => x * b.fdiv p.2
def botT (ps : List (List Int × Int)) : Int := lcmL (bots ps) 1
theorem Rows.all {k w : Nat} {ps : List (List Int × Int)} (h : Rows k ps w) : 0 < botT ps ∧ (∀ p ∈ ps, p.2 ∣ botT ps) ∧ (botT ps).natAbs < 2 ^ (1 + k * ps.length) := by
  obtain ⟨a1, _, a3, _, a5⟩ := lcmL_all (bots ps) 1 k 1 (by decide) (fun q hq => by
    obtain ⟨p, hp, rfl⟩ := List.mem_map.mp hq
    exact ⟨(h.rt p hp).pos, (h.bd p hp).b⟩) (by decide)
  refine ⟨a1, fun p hp => a3 (1, p.2) (List.mem_map.mpr ⟨p, hp, rfl⟩), ?_⟩
  have hl : (bots ps).length = ps.length := by simp [bots]
  rw [hl] at a5
  exact a5
theorem overT_bd {k w : Nat} {ps : List (List Int × Int)} (h : Rows k ps w) : Bdd (1 + k * 12 + k) (overT ps (botT ps)).flatten (botT ps) := by
  obtain ⟨a1, a3, a5⟩ := h.all
  have l := h.hi
  have up : (botT ps).natAbs < 2 ^ (1 + k * 12) := pow_up a5 (by have := Nat.mul_le_mul_left k l; omega)
  refine ⟨fun x hx => ?_, pow_up up (by omega)⟩
  obtain ⟨r, hr, hx⟩ := List.mem_flatten.mp hx
  obtain ⟨p, hp, rfl⟩ := List.mem_map.mp hr
  obtain ⟨y, hy, rfl⟩ := List.mem_map.mp hx
  have hp0 := (h.rt p hp).pos
  obtain ⟨q, hq⟩ := a3 p hp
  have e1 : (botT ps).fdiv p.2 = q := by rw [hq]; exact Int.mul_fdiv_cancel_left q (by omega)
  rw [e1]
  have hqb : q.natAbs < 2 ^ (1 + k * 12) := by
    refine Nat.lt_of_le_of_lt ?_ up
    rw [hq, Int.natAbs_mul]
    exact Nat.le_mul_of_pos_left _ (by omega)
  have := mul_lt ((h.bd p hp).ns y hy) hqb
  rwa [Nat.add_comm] at this
theorem overT_wd {k w : Nat} {ps : List (List Int × Int)} (h : Rows k ps w) : ∀ r ∈ overT ps (botT ps), r.length = w := fun r hr => by
  obtain ⟨p, hp, rfl⟩ := List.mem_map.mp hr
  rw [List.length_map]; exact h.wd p hp
/-- a row over any bottom is shortened to itself -/
theorem short_scale {ns : List Int} {b q : Int} (r : IsRow ns b) (hq : 0 < q) : shortV (ns.map (· * q)) (b * q) = rowV ns b := by
  have g := gcdL_mul ns b q (by omega) (by have := r.pos; omega)
  rw [r.low, Int.one_mul] at g
  unfold shortV
  rw [g, Int.mul_fdiv_cancel _ (by omega), List.map_map]
  congr 1
  rw [show ((fun x : Int => x.fdiv q) ∘ fun x => x * q) = id from funext fun x => Int.mul_fdiv_cancel _ (by omega), List.map_id]
theorem short_scale2 {ns : List Int} {b g : Int} (hb : 0 < b) (hg : 0 < g) : shortV (ns.map (· * g)) (b * g) = shortV ns b := by
  have e := gcdL_mul ns b g (by omega) (by omega)
  have g0 := gcdL_pos (ns := ns) hb
  unfold shortV
  rw [e]
  have d : ∀ x : Int, (x * g).fdiv (gcdL ns b * g) = x.fdiv (gcdL ns b) := fun x => by
    rw [Int.fdiv_eq_ediv_of_nonneg _ (by have := Int.mul_pos g0 hg; omega), Int.fdiv_eq_ediv_of_nonneg _ (by omega), Int.mul_ediv_mul_of_pos_left _ _ hg]
  rw [d, List.map_map]
  congr 1
  exact List.map_congr_left fun x _ => d x
/-- a table's rows are the rows it was made of -/
theorem rows_back {k w : Nat} {ps : List (List Int × Int)} (h : Rows k ps w) {ms : List (List Int)} {c : Int} (e : shortT (overT ps (botT ps)) (botT ps) = tabV ms c) : (ms.map fun r => shortV r c) = ps.map rowP := by
  obtain ⟨a1, a3, _⟩ := h.all
  have g0 := gcdL_pos (ns := (overT ps (botT ps)).flatten) a1
  obtain ⟨g1, g2⟩ := gcdL_dvd (overT ps (botT ps)).flatten (botT ps)
  have e2 : ms = cutT (gcdL (overT ps (botT ps)).flatten (botT ps)) (overT ps (botT ps)) ∧ c = (botT ps).fdiv (gcdL (overT ps (botT ps)).flatten (botT ps)) := by
    unfold shortT tabV at e
    injection e with e
    injection e with ea eb
    injection ea with ea
    injection eb with eb
    injection eb with eb
    have := congrArg (List.map intsOf) ea
    rw [intsOf_map, intsOf_map] at this
    exact ⟨this.symm, eb.symm⟩
  generalize gcdL (overT ps (botT ps)).flatten (botT ps) = g at *
  obtain ⟨rfl, rfl⟩ := e2
  unfold cutT overT
  rw [List.map_map, List.map_map]
  refine List.map_congr_left fun p hp => ?_
  have r := h.rt p hp
  obtain ⟨q, hq⟩ := a3 p hp
  have p0 := r.pos
  have hL : (botT ps).fdiv p.2 = q := by rw [hq]; exact Int.mul_fdiv_cancel_left q (by omega)
  have q0 : 0 < q := by
    rcases Int.lt_or_le 0 q with h | h
    · exact h
    · have := Int.mul_nonpos_of_nonneg_of_nonpos (Int.le_of_lt p0) h
      omega
  obtain ⟨t, ht⟩ := g1
  have hbt : (botT ps).fdiv g = t := by rw [ht]; exact Int.mul_fdiv_cancel_left t (by omega)
  have t0 : 0 < t := by
    rcases Int.lt_or_le 0 t with h | h
    · exact h
    · have := Int.mul_nonpos_of_nonneg_of_nonpos (Int.le_of_lt g0) h
      omega
  show shortV ((p.1.map fun x => x * (botT ps).fdiv p.2).map fun x => x.fdiv g) ((botT ps).fdiv g) = rowP p
  rw [hL, hbt, ← short_scale2 (g := g) t0 g0]
  have back : ((p.1.map fun x => x * q).map fun x => x.fdiv g).map (· * g) = p.1.map (· * q) := by
    rw [List.map_map, List.map_map]
    refine List.map_congr_left fun x hx => ?_
    have hm : x * q ∈ (overT ps (botT ps)).flatten := List.mem_flatten.mpr ⟨_, List.mem_map.mpr ⟨p, hp, rfl⟩, List.mem_map.mpr ⟨x, hx, by rw [hL]⟩⟩
    exact Int.fdiv_mul_cancel (g2 _ hm)
  rw [back, show t * g = p.2 * q by rw [← hq, ht, Int.mul_comm]]
  exact short_scale r q0
end GW
set_option exponentiation.threshold 20000
/-! Core 58: tables told: the least bottom of rows. -/
namespace GW
open PySem
def cTDue : Ct := fun f => ∀ (S : Store) (v : Val) (ps : List (List Int × Int)) (w : Nat), seqI S v = some (ps.map rowP) → w ≤ 12 → Rows 110 ps w → f [v] S = .ok (shortT (overT ps (botT ps)) (botT ps)) S
section
variable {P : Pg} {fu d : Nat}
theorem Rows.step {ps : List (List Int × Int)} {w : Nat} (q : Rows 110 ps w) (m : Nat) (hm : m ≤ ps.length) : 0 < lcmL ((bots ps).take m) 1 ∧ (lcmL ((bots ps).take m) 1).natAbs < 2 ^ 1400 := by
  obtain ⟨b1, _, _, _, b5⟩ := lcmL_all ((bots ps).take m) 1 110 1 (by decide) (fun z hz => by
    obtain ⟨p, hp, rfl⟩ := List.mem_map.mp (List.mem_of_mem_take hz)
    exact ⟨(q.rt p hp).pos, (q.bd p hp).b⟩) (by decide)
  refine ⟨b1, pow_up b5 ?_⟩
  have l2 := q.hi
  rw [List.length_take]
  have : min m (bots ps).length ≤ 12 := by omega
  have := Nat.mul_le_mul_left 110 this
  omega
theorem t_due_at {i cp fl : Nat} (h : P.defs[i]? = some ⟨1, 5, L_t_due cp fl⟩) (hp : At P fu d cp (cGcd fu)) (hs : At P fu d fl cShortT) (hf : 2 ^ 9000 ≤ fu) : At P fu (d + 1) i cTDue := .mk h fun n hd S v ps w hps hw q => by
  obtain ⟨i1, i2, i3, i4⟩ := seqI_items hps
  have l1 := q.lo
  have l2 := q.hi
  obtain ⟨a1, a3, a5⟩ := q.all
  have bd := overT_bd q
  have st := q.step
  refine W.eq ?_
  rw [W_run rfl]
  simp! [L_t_due, i1, ex_some]
  have hbt : ∀ m, (bots ps)[m]? = (ps[m]?).map fun (p : List Int × Int) => ((1 : Int), p.2) := fun m => by unfold bots; rw [List.getElem?_map]
  refine WF_for (fun m en T => T = S ∧ ∃ o o' o'', en = [some v, some (.int (lcmL ((bots ps).take m) 1)), o, o', o'']) ⟨rfl, _, _, _, rfl⟩ (fun m en T h => by rw [h.1]; exact i2) ?_ ?_
  · rintro m x en T hm ⟨rfl, o, o', o'', rfl⟩
    rw [List.getElem?_map, Option.map_eq_some_iff] at hm
    obtain ⟨p, hp', rfl⟩ := hm
    have hm' := (List.getElem?_eq_some_iff.mp hp').1
    have hpm := List.mem_of_getElem? hp'
    obtain ⟨s1, s2⟩ := st m (by omega)
    have r := q.rt p hpm
    have hb := (q.bd p hpm).b
    have gp : 0 < Int.gcd (lcmL ((bots ps).take m) 1) p.2 := gcd_pos (by have := r.pos; omega)
    have gl : Int.gcd (lcmL ((bots ps).take m) 1) p.2 ≤ p.2.natAbs := gcd_le (by have := r.pos; omega)
    have dv : divOk (lcmL ((bots ps).take m) 1 * p.2) (Int.gcd (lcmL ((bots ps).take m) 1) p.2) = true := divOk_b (by omega) (pow_up (show ((Int.gcd (lcmL ((bots ps).take m) 1) p.2 : Nat) : Int).natAbs < 2 ^ 110 by omega) (by decide))
    refine ⟨_, put2, ?_⟩
    simp! [mulOk_p s2 hb (by decide), hp n hd T (lcmL ((bots ps).take m) 1) p.2 (Nat.lt_of_lt_of_le (pow_up hb (by decide)) hf), dv]
    rw [List.take_add_one, hbt, hp']
    simp [lcmL, List.foldl_append, lcmF]
  · rintro en T ⟨rfl, o, o', o'', rfl⟩
    rw [List.length_map, show ps.length = (bots ps).length by simp [bots], List.take_length]
    have es := hs n hd T (.lst ((overT ps (botT ps)).map lI)) _ lI (botT ps) (rws_ll _ _) (by simp [overT]; omega) (fun x hx => by rw [overT_wd q x hx]; omega) a1 (bd.up (by decide))
    simp! [i1, ex_some]
    refine W_lcG ps rowP (fun p => lI (p.1.map fun x => x * (botT ps).fdiv p.2)) i2 (by omega) (fun p hp' => ⟨_, put2, by simp! [GW.W_ok], ?_⟩) ?_
    · have r := q.rt p hp'
      have hb := (q.bd p hp').b
      have dv : divOk (lcmL (bots ps) 1) p.2 = true := divOk_b (by have := r.pos; omega) (pow_up hb (by decide))
      have s2 : (lcmL (bots ps) 1).natAbs < 2 ^ 1400 := by
        have := (st ps.length (Nat.le_refl _)).2
        rwa [show ps.length = (bots ps).length by simp [bots], List.take_length] at this
      have qb : ((lcmL (bots ps) 1).fdiv p.2).natAbs < 2 ^ 1400 := by
        obtain ⟨z, hz⟩ := a3 p hp'
        change lcmL (bots ps) 1 = _ at hz
        have e1 : (lcmL (bots ps) 1).fdiv p.2 = z := by rw [hz]; exact Int.mul_fdiv_cancel_left z (by have := r.pos; omega)
        rw [e1]
        refine Nat.lt_of_le_of_lt ?_ s2
        rw [hz, Int.natAbs_mul]
        exact Nat.le_mul_of_pos_left _ (by have := r.pos; omega)
      simp! [GW.W_ok]
      refine W_lcA p.1 Val.int (fun x => .int (x * (botT ps).fdiv p.2)) (live_t _ _ _) (by rw [q.wd p hp']; omega) (fun x hx => by simp! [GW.W_ok]) (fun x hx => by simp! [dv, mulOk_p ((q.bd p hp').ns x hx) qb (by decide), botT]) ?_
      simp! [List.length_map]
      exact ⟨by rw [q.wd p hp']; exact Nat.le_trans hw (by decide), by simp [lI]⟩
    · rw [show ps.map (fun p => lI (p.1.map fun x => x * (botT ps).fdiv p.2)) = (overT ps (botT ps)).map lI by simp [overT]]
      change callN P fu n fl [.lst ((overT ps (botT ps)).map lI), .int (lcmL (bots ps) 1)] T = _ at es
      simp! [List.length_map, es]
      rw [show (overT ps (botT ps)).length = ps.length by simp [overT]]
      exact Nat.le_trans l2 (by decide)
end
end GW
set_option exponentiation.threshold 20000
/-! Core 59: a table of rows. -/
namespace GW
open PySem
theorem seq_idx0 {S : Store} {v x : Val} {xs : List Val} (h : seqI S v = some (x :: xs)) : idxV v (.int 0) S = .ok x S := by
  have i0 : ∀ (x : Val) (xs : List Val), oV (ixV (x :: xs) 0) S = .ok x S := fun x xs => by
    rw [show (0 : Int) = ((0 : Nat) : Int) from rfl, ix_nat (show (x :: xs)[0]? = some x from rfl)]
    rfl
  cases v with
  | tup ys => cases h; exact i0 _ _
  | lst ys => cases h; exact i0 _ _
  | ref l =>
    simp only [seqI] at h
    unfold idxV
    dsimp only
    split at h
    · rename_i ys e
      cases h
      try rw [e]
      exact i0 _ _
    · cases h
  | _ => cases h
theorem rowP_okv {k w : Nat} {ps : List (List Int × Int)} (q : Rows k ps w) (hk : k ≤ 9000) {p : List Int × Int} (hp : p ∈ ps) (S : Store) : Okv S (rowP p) := okv_row (S := S) ((q.bd p hp).up hk)
theorem rowP_is {k w : Nat} {ps : List (List Int × Int)} (q : Rows k ps w) : (ps.map rowP).all isRow = true := by
  refine List.all_eq_true.mpr fun x hx => ?_
  obtain ⟨p, hp, rfl⟩ := List.mem_map.mp hx
  exact (q.rt p hp).is
def cTableOk : Ct := fun f => ∀ (S : Store) (v : Val) (ps : List (List Int × Int)) (w : Nat), seqI S v = some (ps.map rowP) → w ≤ 12 → Rows 110 ps w → f [v] S = .ok (shortT (overT ps (botT ps)) (botT ps)) S
section
variable {P : Pg} {fu d : Nat}
theorem table_of_ok {i ir cp sh k : Nat} (h : P.defs[i]? = some ⟨1, 4, L_table_of ir cp sh k⟩) (hr : At P fu d ir (cTest isRow)) (hp : At P fu d cp (cGcd fu)) (hs : At P fu d sh cShortT) (hf : 2 ^ 9000 ≤ fu) : At P fu (d + 1) i cTableOk := .mk h fun n hd S v ps w hps hw q => by
  obtain ⟨i1, i2, i3, i4⟩ := seqI_items hps
  have hr := hr n hd
  have l1 := q.lo
  have l2 := q.hi
  obtain ⟨a1, a3, a5⟩ := q.all
  have bd := overT_bd q
  have st := q.step
  have c1 : (1 : Int) ≤ ps.length := by omega
  have c2 : (ps.length : Int) ≤ 12 := by omega
  obtain ⟨p0, pt, hp0⟩ : ∃ p0 pt, ps = p0 :: pt := by
    match ps, l1 with
    | a :: b, _ => exact ⟨a, b, rfl⟩
  have i5 : idxV v (.int 0) S = .ok (rowP p0) S := seq_idx0 (xs := pt.map rowP) (by rw [hps, hp0]; rfl)
  have w0 : p0.1.length = w := q.wd p0 (by rw [hp0]; exact List.mem_cons_self ..)
  have hbt : ∀ m, (bots ps)[m]? = (ps[m]?).map fun (p : List Int × Int) => ((1 : Int), p.2) := fun m => by unfold bots; rw [List.getElem?_map]
  refine W.eq ?_
  rw [W_run rfl]
  simp! [L_table_of, i4, i3, List.length_map, c1, c2, i1, ex_some]
  refine W_lcA ps rowP (fun p => .bl (isRow (rowP p))) i2 (by omega) (fun x hx => by simp! [GW.W_ok]) (fun x hx => by simp! [hr S (rowP x) (rowP_okv q (by decide) hx S)]) ?_
  simp! [List.length_map]
  refine ⟨by omega, ?_⟩
  rw [show ps.map (fun p => Val.bl (isRow (rowP p))) = (ps.map rowP).map fun x => Val.bl (isRow x) by simp]
  refine all_w ?_
  simp! [rowP_is q, i1, ex_some]
  refine W_lcA ps rowP (fun p => .bl true) i2 (by omega) (fun x hx => by simp! [GW.W_ok]) (fun x hx => ?_) ?_
  · simp! [rowP, rowV, i5, q.wd x hx, w0, List.length_map, cmp_eq, decide_true]
  simp! [List.length_map]
  refine ⟨by omega, ?_⟩
  rw [show ps.map (fun p => Val.bl true) = (ps.map rowP).map fun x => Val.bl ((fun _ => true) x) by simp]
  refine all_w ?_
  rw [show (ps.map rowP).all (fun _ => true) = true by simp]
  simp! [i1, ex_some]
  refine WF_for (fun m en T => T = S ∧ ∃ o o', en = [some v, some (.int (lcmL ((bots ps).take m) 1)), o, o']) ⟨rfl, _, _, rfl⟩ (fun m en T h => by rw [h.1]; exact i2) ?_ ?_
  · rintro m x en T hm ⟨rfl, o, o', rfl⟩
    rw [List.getElem?_map, Option.map_eq_some_iff] at hm
    obtain ⟨p, hp', rfl⟩ := hm
    have hm' := (List.getElem?_eq_some_iff.mp hp').1
    have hpm := List.mem_of_getElem? hp'
    obtain ⟨s1, s2⟩ := st m (by omega)
    have r := q.rt p hpm
    have hb := (q.bd p hpm).b
    have gp : 0 < Int.gcd (lcmL ((bots ps).take m) 1) p.2 := gcd_pos (by have := r.pos; omega)
    have gl : Int.gcd (lcmL ((bots ps).take m) 1) p.2 ≤ p.2.natAbs := gcd_le (by have := r.pos; omega)
    have dv : divOk (lcmL ((bots ps).take m) 1 * p.2) (Int.gcd (lcmL ((bots ps).take m) 1) p.2) = true := divOk_b (by omega) (pow_up (show ((Int.gcd (lcmL ((bots ps).take m) 1) p.2 : Nat) : Int).natAbs < 2 ^ 110 by omega) (by decide))
    refine ⟨_, rfl, ?_⟩
    simp! [rowP, rowV, mulOk_p s2 hb (by decide), hp n hd T (lcmL ((bots ps).take m) 1) p.2 (Nat.lt_of_lt_of_le (pow_up hb (by decide)) hf), dv]
    rw [List.take_add_one, hbt, hp']
    simp [lcmL, List.foldl_append, lcmF]
  · rintro en T ⟨rfl, o, o', rfl⟩
    rw [List.length_map, show ps.length = (bots ps).length by simp [bots], List.take_length]
    have es := hs n hd T (.lst ((overT ps (botT ps)).map lI)) _ lI (botT ps) (rws_ll _ _) (by simp [overT]; omega) (fun x hx => by rw [overT_wd q x hx]; omega) a1 (bd.up (by decide))
    simp! [i1, ex_some]
    refine W_lcA ps rowP (fun p => lI (p.1.map fun x => x * (botT ps).fdiv p.2)) i2 (by omega) (fun x hx => by simp! [GW.W_ok]) (fun p hp' => ?_) ?_
    · have r := q.rt p hp'
      have hb := (q.bd p hp').b
      have dv : divOk (lcmL (bots ps) 1) p.2 = true := divOk_b (by have := r.pos; omega) (pow_up hb (by decide))
      have s2 : (lcmL (bots ps) 1).natAbs < 2 ^ 1400 := by
        have := (st ps.length (Nat.le_refl _)).2
        rwa [show ps.length = (bots ps).length by simp [bots], List.take_length] at this
      have qb : ((lcmL (bots ps) 1).fdiv p.2).natAbs < 2 ^ 1400 := by
        obtain ⟨z, hz⟩ := a3 p hp'
        change lcmL (bots ps) 1 = _ at hz
        have e1 : (lcmL (bots ps) 1).fdiv p.2 = z := by rw [hz]; exact Int.mul_fdiv_cancel_left z (by have := r.pos; omega)
        rw [e1]
        refine Nat.lt_of_le_of_lt ?_ s2
        rw [hz, Int.natAbs_mul]
        exact Nat.le_mul_of_pos_left _ (by have := r.pos; omega)
      simp! [rowP, rowV]
      refine W_lcA p.1 Val.int (fun x => .int (x * (botT ps).fdiv p.2)) (live_t _ _ _) (by rw [q.wd p hp']; omega) (fun x hx => by simp! [GW.W_ok]) (fun x hx => by simp! [rowP, rowV, dv, mulOk_p ((q.bd p hp').ns x hx) qb (by decide), botT]) ?_
      simp! [List.length_map]
      exact ⟨by rw [q.wd p hp']; exact Nat.le_trans hw (by decide), by simp [lI]⟩
    · rw [show ps.map (fun p => lI (p.1.map fun x => x * (botT ps).fdiv p.2)) = (overT ps (botT ps)).map lI by simp [overT]]
      change callN P fu n sh [.lst ((overT ps (botT ps)).map lI), .int (lcmL (bots ps) 1)] T = _ at es
      simp! [List.length_map, es]
      rw [show (overT ps (botT ps)).length = ps.length by simp [overT]]
      exact Nat.le_trans l2 (by decide)
end
end GW
set_option exponentiation.threshold 20000
/-! Core 60: what is refused by a table of rows. -/
namespace GW
open PySem
def widthOf : Val → Nat
  | .tup [.tup xs, _] => xs.length
  | _ => 0
def goodT (xs : List Val) : Bool := goodL isRow xs && xs.all fun x => decide ((widthOf x : Int) = (widthOf (xs.headD .non) : Int))
def cTableBad (k : Nat) : Ct := fun f => ∀ S v, Okv S v → (∀ xs, seqI S v = some xs → Okvs S xs ∧ goodT xs = false) → f [v] S = .exc k [v] S
section
variable {P : Pg} {fu d : Nat}
theorem table_of_bad {i ir cp sh k : Nat} (h : P.defs[i]? = some ⟨1, 4, L_table_of ir cp sh k⟩) (hr : At P fu d ir (cTest isRow)) : At P fu (d + 1) i (cTableBad k) := .mk h fun n hd S v hv hx => by
  have hr := hr n hd
  have main : W (runD (om P fu n) ⟨1, 4, L_table_of ir cp sh k⟩ [v] S) (fun _ _ => False) (fun c fs T => c = k ∧ fs = [v] ∧ T = S) := by
    rw [W_run rfl]
    cases hq : seqI S v with
    | none =>
      simp! [L_table_of, seqI_none hv hq, List.reverse_cons, List.reverse_nil]
    | some xs =>
      obtain ⟨i1, i2, i3, i4⟩ := seqI_items hq
      obtain ⟨ox, gx⟩ := hx xs hq
      simp! [L_table_of, i4, i3]
      by_cases h1 : 1 ≤ xs.length
      · by_cases h2 : xs.length ≤ 12
        · have c1 : (1 : Int) ≤ xs.length := by omega
          have c2 : (xs.length : Int) ≤ 12 := by omega
          simp! [c1, c2, i1, ex_some]
          refine W_lcV xs (fun x => .bl (isRow x)) i2 (by omega) (fun x hx => by simp! [GW.W_ok]) (fun x hx => by simp! [hr S x (okvs_iff.mp ox x hx)]) ?_
          simp! [List.length_map]
          refine ⟨by omega, all_w ?_⟩
          cases ha : xs.all isRow with
          | false => simp! [ha, List.reverse_cons, List.reverse_nil]
          | true =>
            simp! [ha, i1, ex_some]
            have hx0 : ∃ x0 xt, xs = x0 :: xt := by
              cases xs with
              | nil => exact absurd h1 (by decide)
              | cons a b => exact ⟨a, b, rfl⟩
            obtain ⟨x0, xt, hxs⟩ := hx0
            have rows := List.all_eq_true.mp ha
            have sh : ∀ x ∈ xs, ∃ ns b, x = .tup [.tup ns, b] := fun x hx => by
              obtain ⟨ns, b, e, _⟩ := isRow_iff.mp (rows x hx)
              exact ⟨_, _, e⟩
            have i5 : idxV v (.int 0) S = .ok x0 S := seq_idx0 (by rw [hq, hxs])
            obtain ⟨n0, b0, e0⟩ := sh x0 (by rw [hxs]; exact List.mem_cons_self ..)
            have bad : xs.all (fun x => decide ((widthOf x : Int) = (widthOf x0 : Int))) = false := by
              have g := gx
              unfold goodT goodL at g
              rw [ha, decide_eq_true h1, decide_eq_true h2, show xs.headD .non = x0 by rw [hxs]; rfl] at g
              simpa only [Bool.true_and] using g
            refine W_lcV xs (fun x => .bl (decide ((widthOf x : Int) = (widthOf x0 : Int)))) i2 (by omega) (fun x hx => by simp! [GW.W_ok]) (fun x hx => ?_) ?_
            · obtain ⟨ns, b, rfl⟩ := sh x hx
              subst e0
              simp! [i5, cmp_eq]
              first | rfl | exact ⟨rfl, rfl⟩ | simp [widthOf]
            · simp! [List.length_map]
              refine ⟨by omega, all_w ?_⟩
              simp! [bad, List.reverse_cons, List.reverse_nil]
        · have c1 : (1 : Int) ≤ xs.length := by omega
          have c2 : ¬ (xs.length : Int) ≤ 12 := by omega
          simp! [c1, c2, List.reverse_cons, List.reverse_nil]
      · have c1 : ¬ (1 : Int) ≤ xs.length := by omega
        simp! [c1, List.reverse_cons, List.reverse_nil]
  show runD _ _ _ _ = _
  generalize runD (om P fu n) ⟨1, 4, L_table_of ir cp sh k⟩ [v] S = r at main
  cases r with
  | ok a T => exact main.elim
  | exc c fs T => obtain ⟨rfl, rfl, rfl⟩ := main; rfl
  | stk => exact main.elim
end
end GW
namespace K07
open PySem GW
def tp (i : Nat) : Stmt := PySem.Challenge.pw_guesswalk_k07_tables_told.main.body.getD i (.Pass ⟨0, 0, 0, 0⟩)
def tm (i j : Nat) : Stmt := match tp i with
  | .ClassDef _ _ _ b _ _ _ _ _ _ _ => b.getD j (.Pass ⟨0, 0, 0, 0⟩)
  | _ => .Pass ⟨0, 0, 0, 0⟩
/-- is_number: 0 thing -/
def b_is_number : Cs := (.cons (.ret (.and (.isi (.var 0) ["int"]) (.not (.isi (.var 0) ["bool"]))))
  .nil)
/-- is_whole: 0 thing 1 low 2 high -/
def b_is_whole : Cs := (.cons (.ret (.and (.call 0 (.cons (.var 0) .nil)) (.chn .le .le (.var 1) (.var 0) (.var 2))))
  .nil)
/-- common_part: 0 one 1 other -/
def b_common_part : Cs := (.cons (.set 0 (.blt .abs (.cons (.var 0) .nil)))
  (.cons (.set 1 (.blt .abs (.cons (.var 1) .nil)))
  (.cons (.whl (.cmp .gt (.var 1) (.cst (.int 0))) (.cons (.par 0 1 (.var 1) (.bin .mod (.var 0) (.var 1)))
    .nil))
  (.cons (.ret (.var 0))
  .nil))))
/-- common_of: 0 numbers 1 bottom 2 by 3 number -/
def b_common_of : Cs := (.cons (.set 2 (.var 1))
  (.cons (.forr (.one 3) (.val (.var 0)) (.cons (.set 2 (.call 2 (.cons (.var 2) (.cons (.var 3) .nil))))
    .nil))
  (.cons (.ret (.var 2))
  .nil)))
/-- short_row: 0 numbers 1 bottom 2 by 3 number -/
def b_short_row : Cs := (.cons (.set 2 (.call 3 (.cons (.var 0) (.cons (.var 1) .nil))))
  (.cons (.ret (.tpd (.cons (.blt .tuple (.cons (.lc false (.one 3) (.val (.var 0)) .nil (.bin .div (.var 3) (.var 2))) .nil)) (.cons (.bin .div (.var 1) (.var 2)) .nil))))
  .nil))
/-- are_numbers: 0 thing 1 one -/
def b_are_numbers : Cs := (.cons (.ret (.and (.isi (.var 0) ["tuple"]) (.and (.chn .le .le (.cst (.int 1)) (.blt .len (.cons (.var 0) .nil)) (.glo "MOST" (.int 12))) (.blt .all (.cons (.lc false (.one 1) (.val (.var 0)) .nil (.call 0 (.cons (.var 1) .nil))) .nil)))))
  .nil)
/-- is_row: 0 thing -/
def b_is_row : Cs := (.cons (.ife (.or (.not (.isi (.var 0) ["tuple"])) (.or (.cmp .ne (.blt .len (.cons (.var 0) .nil)) (.cst (.int 2))) (.or (.not (.call 5 (.cons (.idx (.var 0) (.cst (.int 0))) .nil))) (.not (.call 0 (.cons (.idx (.var 0) (.cst (.int 1))) .nil)))))) (.cons (.ret (.cst (.bl false)))
    .nil) .nil)
  (.cons (.ret (.and (.cmp .gt (.idx (.var 0) (.cst (.int 1))) (.cst (.int 0))) (.cmp .eq (.call 3 (.cons (.idx (.var 0) (.cst (.int 0))) (.cons (.idx (.var 0) (.cst (.int 1))) .nil))) (.cst (.int 1)))))
  .nil))
/-- need_many: 0 many -/
def b_need_many : Cs := (.cons (.ife (.not (.call 1 (.cons (.var 0) (.cons (.cst (.int 1)) (.cons (.glo "MOST" (.int 12)) .nil))))) (.cons (.rai 2 (.cons (.var 0) .nil))
    .nil) .nil)
  .nil)
/-- short_table: 0 rows 1 bottom 2 by 3 row 4 number -/
def b_short_table : Cs := (.cons (.set 2 (.var 1))
  (.cons (.forr (.one 3) (.val (.var 0)) (.cons (.set 2 (.call 3 (.cons (.var 3) (.cons (.var 2) .nil))))
    .nil))
  (.cons (.ret (.tpd (.cons (.blt .tuple (.cons (.lc false (.one 3) (.val (.var 0)) .nil (.blt .tuple (.cons (.lc false (.one 4) (.val (.var 3)) .nil (.bin .div (.var 4) (.var 2))) .nil))) .nil)) (.cons (.bin .div (.var 1) (.var 2)) .nil))))
  .nil)))
/-- are_rows: 0 thing 1 row -/
def b_are_rows : Cs := (.cons (.ife (.or (.not (.isi (.var 0) ["tuple"])) (.or (.not (.chn .le .le (.cst (.int 1)) (.blt .len (.cons (.var 0) .nil)) (.glo "MOST" (.int 12)))) (.not (.blt .all (.cons (.lc false (.one 1) (.val (.var 0)) .nil (.call 5 (.cons (.var 1) .nil))) .nil))))) (.cons (.ret (.cst (.bl false)))
    .nil) .nil)
  (.cons (.ret (.blt .all (.cons (.lc false (.one 1) (.val (.var 0)) .nil (.cmp .eq (.blt .len (.cons (.var 1) .nil)) (.blt .len (.cons (.idx (.var 0) (.cst (.int 0))) .nil)))) .nil)))
  .nil))
/-- is_table: 0 thing -/
def b_is_table : Cs := (.cons (.ife (.or (.not (.isi (.var 0) ["tuple"])) (.or (.cmp .ne (.blt .len (.cons (.var 0) .nil)) (.cst (.int 2))) (.or (.not (.call 9 (.cons (.idx (.var 0) (.cst (.int 0))) .nil))) (.not (.call 0 (.cons (.idx (.var 0) (.cst (.int 1))) .nil)))))) (.cons (.ret (.cst (.bl false)))
    .nil) .nil)
  (.cons (.ret (.and (.cmp .gt (.idx (.var 0) (.cst (.int 1))) (.cst (.int 0))) (.cmp .eq (.call 8 (.cons (.idx (.var 0) (.cst (.int 0))) (.cons (.idx (.var 0) (.cst (.int 1))) .nil))) (.var 0))))
  .nil))
/-- need_table: 0 thing -/
def b_need_table : Cs := (.cons (.ife (.not (.call 10 (.cons (.var 0) .nil))) (.cons (.rai 1 (.cons (.var 0) .nil))
    .nil) .nil)
  .nil)
/-- table_of: 0 rows 1 bottom 2 row 3 number -/
def b_table_of : Cs := (.cons (.ife (.or (.not (.isi (.var 0) ["list", "tuple"])) (.or (.not (.chn .le .le (.cst (.int 1)) (.blt .len (.cons (.var 0) .nil)) (.glo "MOST" (.int 12)))) (.not (.blt .all (.cons (.lc false (.one 2) (.val (.var 0)) .nil (.call 6 (.cons (.var 2) .nil))) .nil))))) (.cons (.rai 1 (.cons (.var 0) .nil))
    .nil) .nil)
  (.cons (.ife (.not (.blt .all (.cons (.lc false (.one 2) (.val (.var 0)) .nil (.cmp .eq (.blt .len (.cons (.idx (.var 2) (.cst (.int 0))) .nil)) (.blt .len (.cons (.idx (.idx (.var 0) (.cst (.int 0))) (.cst (.int 0))) .nil)))) .nil))) (.cons (.rai 1 (.cons (.var 0) .nil))
    .nil) .nil)
  (.cons (.set 1 (.cst (.int 1)))
  (.cons (.forr (.one 2) (.val (.var 0)) (.cons (.set 1 (.bin .div (.bin .mul (.var 1) (.idx (.var 2) (.cst (.int 1)))) (.call 2 (.cons (.var 1) (.cons (.idx (.var 2) (.cst (.int 1))) .nil)))))
    .nil))
  (.cons (.ret (.call 8 (.cons (.lc false (.one 2) (.val (.var 0)) .nil (.lc false (.one 3) (.val (.idx (.var 2) (.cst (.int 0)))) .nil (.bin .mul (.var 3) (.bin .div (.var 1) (.idx (.var 2) (.cst (.int 1))))))) (.cons (.var 1) .nil))))
  .nil)))))
/-- table_rows: 0 table 1 row -/
def b_table_rows : Cs := (.cons (.exp (.call 11 (.cons (.var 0) .nil)))
  (.cons (.ret (.lc true (.one 1) (.val (.idx (.var 0) (.cst (.int 0)))) .nil (.call 4 (.cons (.var 1) (.cons (.idx (.var 0) (.cst (.int 1))) .nil)))))
  .nil))
/-- nought_table: 0 many -/
def b_nought_table : Cs := (.cons (.exp (.call 7 (.cons (.var 0) .nil)))
  (.cons (.ret (.tpd (.cons (.bin .mul (.tpd (.cons (.bin .mul (.tpd (.cons (.cst (.int 0)) .nil)) (.var 0)) .nil)) (.var 0)) (.cons (.cst (.int 1)) .nil))))
  .nil))
/-- unit_table: 0 many 1 place 2 at -/
def b_unit_table : Cs := (.cons (.exp (.call 7 (.cons (.var 0) .nil)))
  (.cons (.ret (.tpd (.cons (.blt .tuple (.cons (.lc false (.one 1) (.rng1 (.var 0)) .nil (.blt .tuple (.cons (.lc false (.one 2) (.rng1 (.var 0)) .nil (.blt .int (.cons (.cmp .eq (.var 2) (.var 1)) .nil))) .nil))) .nil)) (.cons (.cst (.int 1)) .nil))))
  .nil))
/-- _law_cell: 0 _law_script 1 _law_k -/
def b_law_cell : Cs := (.cons (.ife (.cmp .lt (.var 1) (.blt .len (.cons (.var 0) .nil))) (.cons (.ret (.idx (.var 0) (.var 1)))
    .nil) .nil)
  (.cons (.ret (.bin .add (.bin .mul (.cst (.int 7919)) (.var 1)) (.cst (.int 13))))
  .nil))
/-- _law_purse: 0 _law_cell_here -/
def b_law_purse : Cs := (.cons (.ret (.lsd true (.cons (.idx (.lsd false (.cons (.cst (.int 0)) (.cons (.var 0) .nil))) (.blt .int (.cons (.cmp .ge (.var 0) (.bin .pow (.cst (.int 10)) (.cst (.int 18)))) .nil))) (.cons (.bin .mod (.var 0) (.cst (.int 2147483629))) (.cons (.cst (.int 0)) .nil)))))
  .nil)
/-- _law_take: 0 _law_purse_here 1 _law_many 2 _law_seed 3 _law_number_here 4 _law_digit -/
def b_law_take : Cs := (.cons (.ife (.cmp .gt (.idx (.var 0) (.cst (.int 0))) (.cst (.int 0))) (.cons (.set 4 (.bin .mod (.idx (.var 0) (.cst (.int 0))) (.var 1)))
    (.cons (.sset (.var 0) (.cst (.int 0)) (.bin .div (.idx (.var 0) (.cst (.int 0))) (.var 1)))
    (.cons (.ret (.var 4))
    .nil))) .nil)
  (.cons (.sset (.var 0) (.cst (.int 2)) (.bin .add (.idx (.var 0) (.cst (.int 2))) (.cst (.int 1))))
  (.cons (.set 2 (.bin .mod (.bin .mul (.bin .add (.idx (.var 0) (.cst (.int 1))) (.cst (.int 11))) (.bin .add (.bin .mul (.cst (.int 2)) (.idx (.var 0) (.cst (.int 2)))) (.cst (.int 5)))) (.cst (.int 2147483647))))
  (.cons (.set 3 (.bin .mod (.bin .mul (.var 2) (.var 2)) (.cst (.int 2147483647))))
  (.cons (.set 3 (.bin .mod (.bin .mul (.bin .mod (.bin .mul (.var 3) (.var 3)) (.cst (.int 2147483629))) (.var 2)) (.cst (.int 2147483587))))
  (.cons (.ret (.bin .mod (.bin .div (.bin .mod (.bin .add (.var 3) (.bin .mul (.cst (.int 7)) (.idx (.var 0) (.cst (.int 2))))) (.cst (.int 2147483579))) (.cst (.int 32))) (.var 1)))
  .nil))))))
/-- _law_number: 0 _law_purse_here 1 _law_way 2 _law_turn 3 _law_number_here 4 _law_k -/
def b_law_number : Cs := (.cons (.set 1 (.call 18 (.cons (.var 0) (.cons (.cst (.int 16)) .nil))))
  (.cons (.set 2 (.bin .sub (.cst (.int 1)) (.bin .mul (.cst (.int 2)) (.call 18 (.cons (.var 0) (.cons (.cst (.int 2)) .nil))))))
  (.cons (.ife (.cmp .eq (.var 1) (.cst (.int 15))) (.cons (.set 3 (.call 18 (.cons (.var 0) (.cons (.bin .pow (.cst (.int 10)) (.cst (.int 4))) .nil))))
    (.cons (.forr (.one 4) (.rng1 (.cst (.int 4))) (.cons (.set 3 (.bin .add (.bin .mul (.var 3) (.bin .pow (.cst (.int 10)) (.cst (.int 6)))) (.call 18 (.cons (.var 0) (.cons (.bin .pow (.cst (.int 10)) (.cst (.int 6))) .nil)))))
      .nil))
    (.cons (.ret (.bin .mul (.var 2) (.var 3)))
    .nil))) .nil)
  (.cons (.ret (.bin .mul (.var 2) (.call 18 (.cons (.var 0) (.cons (.idx (.lsd false (.cons (.cst (.int 10)) (.cons (.cst (.int 1000)) .nil))) (.blt .int (.cons (.cmp .gt (.var 1) (.cst (.int 12))) .nil))) .nil)))))
  .nil))))
/-- _law_common: 0 _law_one 1 _law_other -/
def b_law_common : Cs := (.cons (.whl (.cmp .ne (.var 1) (.cst (.int 0))) (.cons (.par 0 1 (.var 1) (.bin .mod (.var 0) (.var 1)))
    .nil))
  (.cons (.ret (.blt .abs (.cons (.var 0) .nil)))
  .nil))
/-- _law_low: 0 _law_top 1 _law_bottom 2 _law_by -/
def b_law_low : Cs := (.cons (.set 2 (.call 20 (.cons (.var 0) (.cons (.var 1) .nil))))
  (.cons (.ife (.cmp .lt (.var 1) (.cst (.int 0))) (.cons (.set 2 (.bin .sub (.cst (.int 0)) (.var 2)))
    .nil) .nil)
  (.cons (.ret (.tpd (.cons (.bin .div (.var 0) (.var 2)) (.cons (.bin .div (.var 1) (.var 2)) .nil))))
  .nil)))
/-- _law_ratio: 0 _law_purse_here 1 _law_top -/
def b_law_ratio : Cs := (.cons (.set 1 (.call 19 (.cons (.var 0) .nil)))
  (.cons (.ret (.call 21 (.cons (.var 1) (.cons (.bin .add (.cst (.int 1)) (.bin .mod (.blt .abs (.cons (.call 19 (.cons (.var 0) .nil)) .nil)) (.idx (.lsd false (.cons (.cst (.int 4)) (.cons (.cst (.int 4)) (.cons (.cst (.int 100)) (.cons (.bin .sub (.bin .pow (.cst (.int 10)) (.cst (.int 30))) (.cst (.int 1))) .nil))))) (.call 18 (.cons (.var 0) (.cons (.cst (.int 4)) .nil)))))) .nil))))
  .nil))
/-- _law_is_ratio: 0 _law_found 1 _law_number_here -/
def b_law_is_ratio : Cs := (.cons (.ife (.or (.not (.isi (.var 0) ["tuple"])) (.cmp .ne (.blt .len (.cons (.var 0) .nil)) (.cst (.int 2)))) (.cons (.ret (.cst (.bl false)))
    .nil) .nil)
  (.cons (.forr (.one 1) (.val (.var 0)) (.cons (.ife (.or (.not (.isi (.var 1) ["int"])) (.isi (.var 1) ["bool"])) (.cons (.ret (.cst (.bl false)))
      .nil) .nil)
    .nil))
  (.cons (.ret (.and (.cmp .gt (.idx (.var 0) (.cst (.int 1))) (.cst (.int 0))) (.cmp .eq (.call 20 (.cons (.idx (.var 0) (.cst (.int 0))) (.cons (.idx (.var 0) (.cst (.int 1))) .nil))) (.cst (.int 1)))))
  .nil)))
/-- _law_same: 0 _law_found 1 _law_due_here -/
def b_law_same : Cs := (.cons (.ret (.and (.call 23 (.cons (.var 0) .nil)) (.cmp .eq (.var 0) (.var 1))))
  .nil)
/-- _law_short: 0 _law_numbers 1 _law_bottom 2 _law_by 3 _law_number_here -/
def b_law_short : Cs := (.cons (.set 2 (.var 1))
  (.cons (.forr (.one 3) (.val (.var 0)) (.cons (.set 2 (.call 20 (.cons (.var 2) (.cons (.var 3) .nil))))
    .nil))
  (.cons (.ret (.tpd (.cons (.blt .tuple (.cons (.lc false (.one 3) (.val (.var 0)) .nil (.bin .div (.var 3) (.var 2))) .nil)) (.cons (.bin .div (.var 1) (.var 2)) .nil))))
  .nil)))
/-- _law_row: 0 _law_purse_here 1 _law_many 2 _law_bottom 3 _law_numbers 4 _law_k -/
def b_law_row : Cs := (.cons (.set 2 (.bin .add (.cst (.int 1)) (.bin .mod (.blt .abs (.cons (.call 19 (.cons (.var 0) .nil)) .nil)) (.idx (.lsd false (.cons (.cst (.int 1)) (.cons (.cst (.int 2)) (.cons (.cst (.int 4)) (.cons (.cst (.int 100)) .nil))))) (.call 18 (.cons (.var 0) (.cons (.cst (.int 4)) .nil)))))))
  (.cons (.set 3 (.lc false (.one 4) (.rng1 (.var 1)) .nil (.bin .mul (.call 19 (.cons (.var 0) .nil)) (.idx (.lsd false (.cons (.cst (.int 0)) (.cons (.cst (.int 1)) (.cons (.cst (.int 1)) (.cons (.var 2) .nil))))) (.call 18 (.cons (.var 0) (.cons (.cst (.int 4)) .nil)))))))
  (.cons (.ret (.call 25 (.cons (.var 3) (.cons (.var 2) .nil))))
  .nil)))
/-- _law_flat: 0 _law_rows 1 _law_bottom 2 _law_by 3 _law_row_here 4 _law_number_here -/
def b_law_flat : Cs := (.cons (.set 2 (.var 1))
  (.cons (.forr (.one 3) (.val (.var 0)) (.cons (.forr (.one 4) (.val (.var 3)) (.cons (.set 2 (.call 20 (.cons (.var 2) (.cons (.var 4) .nil))))
      .nil))
    .nil))
  (.cons (.ret (.tpd (.cons (.blt .tuple (.cons (.lc false (.one 3) (.val (.var 0)) .nil (.blt .tuple (.cons (.lc false (.one 4) (.val (.var 3)) .nil (.bin .div (.var 4) (.var 2))) .nil))) .nil)) (.cons (.bin .div (.var 1) (.var 2)) .nil))))
  .nil)))
/-- _law_table: 0 _law_purse_here 1 _law_many 2 _law_wide 3 _law_bottom 4 _law_rows 5 _law_k 6 _law_j -/
def b_law_table : Cs := (.cons (.set 3 (.bin .add (.cst (.int 1)) (.bin .mod (.blt .abs (.cons (.call 19 (.cons (.var 0) .nil)) .nil)) (.idx (.lsd false (.cons (.cst (.int 1)) (.cons (.cst (.int 2)) (.cons (.cst (.int 4)) (.cons (.cst (.int 100)) .nil))))) (.call 18 (.cons (.var 0) (.cons (.cst (.int 4)) .nil)))))))
  (.cons (.set 4 (.lsd true .nil))
  (.cons (.forr (.one 5) (.rng1 (.var 1)) (.cons (.exp (.mth .append (.var 4) (.cons (.lc false (.one 6) (.rng1 (.var 2)) .nil (.bin .mul (.call 19 (.cons (.var 0) .nil)) (.idx (.lsd false (.cons (.cst (.int 0)) (.cons (.cst (.int 1)) (.cons (.cst (.int 1)) (.cons (.var 3) .nil))))) (.call 18 (.cons (.var 0) (.cons (.cst (.int 4)) .nil)))))) .nil)))
    .nil))
  (.cons (.ret (.call 27 (.cons (.var 4) (.cons (.var 3) .nil))))
  .nil))))
/-- _law_is_number: 0 _law_thing -/
def b_law_is_number : Cs := (.cons (.ret (.and (.isi (.var 0) ["int"]) (.not (.isi (.var 0) ["bool"]))))
  .nil)
/-- _law_is_numbers: 0 _law_thing 1 _law_one -/
def b_law_is_numbers : Cs := (.cons (.ife (.or (.not (.isi (.var 0) ["tuple"])) (.not (.chn .le .le (.cst (.int 1)) (.blt .len (.cons (.var 0) .nil)) (.cst (.int 12))))) (.cons (.ret (.cst (.bl false)))
    .nil) .nil)
  (.cons (.ret (.cmp .eq (.lc false (.one 1) (.val (.var 0)) (.cons (.not (.call 29 (.cons (.var 1) .nil))) .nil) (.var 1)) (.lsd false .nil)))
  .nil))
/-- _law_is_row: 0 _law_thing -/
def b_law_is_row : Cs := (.cons (.ife (.or (.not (.isi (.var 0) ["tuple"])) (.or (.cmp .ne (.blt .len (.cons (.var 0) .nil)) (.cst (.int 2))) (.or (.not (.call 30 (.cons (.idx (.var 0) (.cst (.int 0))) .nil))) (.not (.call 29 (.cons (.idx (.var 0) (.cst (.int 1))) .nil)))))) (.cons (.ret (.cst (.bl false)))
    .nil) .nil)
  (.cons (.ret (.and (.cmp .gt (.idx (.var 0) (.cst (.int 1))) (.cst (.int 0))) (.cmp .eq (.call 25 (.cons (.idx (.var 0) (.cst (.int 0))) (.cons (.idx (.var 0) (.cst (.int 1))) .nil))) (.var 0))))
  .nil))
/-- _law_is_table: 0 _law_thing 1 _law_row_here -/
def b_law_is_table : Cs := (.cons (.ife (.or (.not (.isi (.var 0) ["tuple"])) (.or (.cmp .ne (.blt .len (.cons (.var 0) .nil)) (.cst (.int 2))) (.not (.call 29 (.cons (.idx (.var 0) (.cst (.int 1))) .nil))))) (.cons (.ret (.cst (.bl false)))
    .nil) .nil)
  (.cons (.ife (.or (.not (.isi (.idx (.var 0) (.cst (.int 0))) ["tuple"])) (.not (.chn .le .le (.cst (.int 1)) (.blt .len (.cons (.idx (.var 0) (.cst (.int 0))) .nil)) (.cst (.int 12))))) (.cons (.ret (.cst (.bl false)))
    .nil) .nil)
  (.cons (.ife (.cmp .ne (.lc false (.one 1) (.val (.idx (.var 0) (.cst (.int 0)))) (.cons (.not (.call 30 (.cons (.var 1) .nil))) .nil) (.var 1)) (.lsd false .nil)) (.cons (.ret (.cst (.bl false)))
    .nil) .nil)
  (.cons (.ife (.cmp .ne (.lc false (.one 1) (.val (.idx (.var 0) (.cst (.int 0)))) (.cons (.cmp .ne (.blt .len (.cons (.var 1) .nil)) (.blt .len (.cons (.idx (.idx (.var 0) (.cst (.int 0))) (.cst (.int 0))) .nil))) .nil) (.var 1)) (.lsd false .nil)) (.cons (.ret (.cst (.bl false)))
    .nil) .nil)
  (.cons (.ret (.and (.cmp .gt (.idx (.var 0) (.cst (.int 1))) (.cst (.int 0))) (.cmp .eq (.call 27 (.cons (.idx (.var 0) (.cst (.int 0))) (.cons (.idx (.var 0) (.cst (.int 1))) .nil))) (.var 0))))
  .nil)))))
/-- _law_no_row: 0 _law_purse_here 1 _law_row_here 2 _law_way 3 _law_at 4 _law_odd 5 _law_some 6 _law_numbers 7 _law_bottom 8 _law_one -/
def b_law_no_row : Cs := (.cons (.tset [6, 7] (.var 1))
  (.cons (.set 3 (.call 18 (.cons (.var 0) (.cons (.blt .len (.cons (.var 6) .nil)) .nil))))
  (.cons (.set 4 (.idx (.lsd false (.cons (.cst (.bl true)) (.cons (.cst .non) (.cons (.cst (.str "1")) (.cons (.tpd (.cons (.cst (.int 1)) .nil)) (.cons (.lsd false (.cons (.cst (.int 1)) .nil)) (.cons (.cst (.bl false)) .nil))))))) (.call 18 (.cons (.var 0) (.cons (.cst (.int 6)) .nil)))))
  (.cons (.set 5 (.lsd false (.cons (.tpd (.cons (.bin .add (.bin .add (.slc (.var 6) .no (.yes (.var 3))) (.tpd (.cons (.var 4) .nil))) (.slc (.var 6) (.yes (.bin .add (.var 3) (.cst (.int 1)))) .no)) (.cons (.var 7) .nil))) (.cons (.tpd (.cons (.blt .tuple (.cons (.lc false (.one 8) (.val (.var 6)) .nil (.bin .mul (.cst (.int 3)) (.var 8))) .nil)) (.cons (.bin .mul (.cst (.int 3)) (.var 7)) .nil))) .nil))))
  (.cons (.set 5 (.bin .add (.var 5) (.lsd false (.cons (.tpd (.cons (.blt .list (.cons (.var 6) .nil)) (.cons (.var 7) .nil))) (.cons (.tpd (.cons (.var 6) (.cons (.cst (.int 0)) .nil))) (.cons (.tpd (.cons (.blt .tuple (.cons (.lc false (.one 8) (.val (.var 6)) .nil (.bin .sub (.cst (.int 0)) (.var 8))) .nil)) (.cons (.bin .sub (.cst (.int 0)) (.var 7)) .nil))) .nil))))))
  (.cons (.set 5 (.bin .add (.var 5) (.lsd false (.cons (.tpd (.cons (.var 6) (.cons (.var 4) .nil))) (.cons (.tpd (.cons (.var 6) .nil)) (.cons (.tpd (.cons (.var 6) (.cons (.var 7) (.cons (.cst (.int 1)) .nil)))) (.cons (.lsd false (.cons (.var 6) (.cons (.var 7) .nil))) (.cons (.tpd (.cons (.tpd .nil) (.cons (.cst (.int 1)) .nil))) (.cons (.tpd (.cons (.bin .mul (.tpd (.cons (.cst (.int 0)) .nil)) (.cst (.int 13))) (.cons (.cst (.int 1)) .nil))) .nil)))))))))
  (.cons (.set 5 (.bin .add (.var 5) (.lsd false (.cons (.var 6) (.cons (.var 7) (.cons (.var 4) (.cons (.dcd .nil .nil) (.cons (.bin .add (.idx (.var 1) (.cst (.int 0))) (.var 1)) (.cons (.tpd (.cons (.var 1) (.cons (.cst (.int 1)) .nil))) (.cons (.tpd (.cons (.tpd (.cons (.idx (.var 1) (.cst (.int 0))) .nil)) (.cons (.var 7) .nil))) (.cons (.cst (.str "")) (.cons (.lsd false (.cons (.var 1) .nil)) .nil))))))))))))
  (.cons (.ret (.idx (.bin .add (.var 5) (.lsd false (.cons (.tpd (.cons (.bin .mul (.tpd (.cons (.cst (.int 0)) .nil)) (.blt .len (.cons (.var 6) .nil))) (.cons (.cst (.int 2)) .nil))) .nil))) (.var 2)))
  .nil))))))))
/-- _law_due: 0 _law_rows 1 _law_bottom 2 _law_numbers 3 _law_under 4 _law_number_here -/
def b_law_due : Cs := (.cons (.set 1 (.cst (.int 1)))
  (.cons (.forr (.tup [2, 3]) (.val (.var 0)) (.cons (.set 1 (.bin .div (.bin .mul (.var 1) (.var 3)) (.call 20 (.cons (.var 1) (.cons (.var 3) .nil)))))
    .nil))
  (.cons (.ret (.call 27 (.cons (.lc false (.tup [2, 3]) (.val (.var 0)) .nil (.lc false (.one 4) (.val (.var 2)) .nil (.bin .mul (.var 4) (.bin .div (.var 1) (.var 3))))) (.cons (.var 1) .nil))))
  .nil)))
/-- _law_no_table: 0 _law_purse_here 1 _law_table_here 2 _law_way 3 _law_at 4 _law_place 5 _law_odd 6 _law_bent 7 _law_some 8 _law_rows 9 _law_bottom 10 _law_row_here 11 _law_one -/
def b_law_no_table : Cs := (.cons (.tset [8, 9] (.var 1))
  (.cons (.set 3 (.call 18 (.cons (.var 0) (.cons (.blt .len (.cons (.var 8) .nil)) .nil))))
  (.cons (.set 4 (.call 18 (.cons (.var 0) (.cons (.blt .len (.cons (.idx (.var 8) (.cst (.int 0))) .nil)) .nil))))
  (.cons (.set 5 (.idx (.lsd false (.cons (.cst (.bl true)) (.cons (.cst .non) (.cons (.cst (.str "1")) (.cons (.tpd (.cons (.cst (.int 1)) .nil)) (.cons (.lsd true (.cons (.cst (.int 1)) .nil)) (.cons (.cst (.bl false)) .nil))))))) (.call 18 (.cons (.var 0) (.cons (.cst (.int 6)) .nil)))))
  (.cons (.set 6 (.bin .add (.bin .add (.slc (.idx (.var 8) (.var 3)) .no (.yes (.var 4))) (.tpd (.cons (.var 5) .nil))) (.slc (.idx (.var 8) (.var 3)) (.yes (.bin .add (.var 4) (.cst (.int 1)))) .no)))
  (.cons (.set 7 (.lsd false (.cons (.tpd (.cons (.bin .add (.bin .add (.slc (.var 8) .no (.yes (.var 3))) (.tpd (.cons (.var 6) .nil))) (.slc (.var 8) (.yes (.bin .add (.var 3) (.cst (.int 1)))) .no)) (.cons (.var 9) .nil))) (.cons (.tpd (.cons (.bin .add (.bin .add (.slc (.var 8) .no (.yes (.var 3))) (.tpd (.cons (.bin .add (.idx (.var 8) (.var 3)) (.tpd (.cons (.cst (.int 1)) .nil))) .nil))) (.slc (.var 8) (.yes (.var 3)) .no)) (.cons (.var 9) .nil))) .nil))))
  (.cons (.set 7 (.bin .add (.var 7) (.lsd false (.cons (.tpd (.cons (.bin .add (.bin .add (.slc (.var 8) .no (.yes (.var 3))) (.tpd (.cons (.blt .list (.cons (.idx (.var 8) (.var 3)) .nil)) .nil))) (.slc (.var 8) (.yes (.bin .add (.var 3) (.cst (.int 1)))) .no)) (.cons (.var 9) .nil))) (.cons (.tpd (.cons (.blt .list (.cons (.var 8) .nil)) (.cons (.var 9) .nil))) (.cons (.tpd (.cons (.var 8) (.cons (.cst (.int 0)) .nil))) .nil))))))
  (.cons (.set 7 (.bin .add (.var 7) (.lsd false (.cons (.tpd (.cons (.blt .tuple (.cons (.lc false (.one 10) (.val (.var 8)) .nil (.blt .tuple (.cons (.lc false (.one 11) (.val (.var 10)) .nil (.bin .mul (.cst (.int 5)) (.var 11))) .nil))) .nil)) (.cons (.bin .mul (.cst (.int 5)) (.var 9)) .nil))) (.cons (.tpd (.cons (.var 8) (.cons (.var 5) .nil))) (.cons (.tpd (.cons (.var 8) .nil)) .nil))))))
  (.cons (.set 7 (.bin .add (.var 7) (.lsd false (.cons (.tpd (.cons (.var 8) (.cons (.var 9) (.cons (.cst (.int 1)) .nil)))) (.cons (.lsd true (.cons (.var 8) (.cons (.var 9) .nil))) (.cons (.tpd (.cons (.tpd .nil) (.cons (.cst (.int 1)) .nil))) (.cons (.tpd (.cons (.tpd (.cons (.tpd .nil) .nil)) (.cons (.cst (.int 1)) .nil))) (.cons (.tpd (.cons (.tpd (.cons (.bin .mul (.tpd (.cons (.cst (.int 0)) .nil)) (.cst (.int 13))) .nil)) (.cons (.cst (.int 1)) .nil))) (.cons (.tpd (.cons (.bin .mul (.tpd (.cons (.tpd (.cons (.cst (.int 0)) .nil)) .nil)) (.cst (.int 13))) (.cons (.cst (.int 1)) .nil))) (.cons (.var 8) .nil))))))))))
  (.cons (.set 7 (.bin .add (.var 7) (.lsd false (.cons (.tpd (.cons (.bin .add (.bin .add (.slc (.var 8) .no (.yes (.var 3))) (.tpd (.cons (.tpd (.cons (.var 5) .nil)) .nil))) (.slc (.var 8) (.yes (.bin .add (.var 3) (.cst (.int 1)))) .no)) (.cons (.var 9) .nil))) (.cons (.tpd (.cons (.var 8) (.cons (.bin .sub (.cst (.int 0)) (.var 9)) .nil))) (.cons (.idx (.var 8) (.var 3)) (.cons (.var 9) (.cons (.var 5) .nil))))))))
  (.cons (.ret (.idx (.bin .add (.var 7) (.lsd false (.cons (.dcd .nil .nil) (.cons (.tpd (.cons (.var 1) (.cons (.cst (.int 1)) .nil))) (.cons (.lsd true (.cons (.var 1) .nil)) .nil))))) (.var 2)))
  .nil)))))))))))
/-- _law_tried: 0 _law_call 1 _law_thing 2 _law_told 3 e -/
def b_law_tried : Cs := (.cons (.set 2 (.cst .non))
  (.cons (.tri (.cons (.set 2 (.callv 0 (.cons (.var 1) .nil)))
    .nil) (.cons 1 (some 3) (.cons (.set 2 (.lsd false (.cons (.cst (.str "table")) (.cons (.efl 4 1 0) .nil))))
    .nil) (.cons 2 (some 3) (.cons (.set 2 (.lsd false (.cons (.cst (.str "number")) (.cons (.efl 4 2 0) .nil))))
    .nil) (.cons 0 none (.cons (.set 2 (.lsd false (.cons (.cst (.str "other")) .nil)))
    .nil) .nil))))
  (.cons (.ret (.var 2))
  .nil)))
/-- _law_refused: 0 _law_call 1 _law_word 2 _law_due_here 3 _law_told 4 _law_same_here -/
def b_law_refused : Cs := (.cons (.set 3 (.call 36 (.cons (.var 0) (.cons (.var 2) .nil))))
  (.cons (.ife (.or (.not (.isi (.var 3) ["list"])) (.cmp .ne (.blt .repr (.cons (.var 3) .nil)) (.blt .repr (.cons (.lsd false (.cons (.var 1) (.cons (.var 2) .nil))) .nil)))) (.cons (.ret (.cst (.bl false)))
    .nil) .nil)
  (.cons (.ife (.isi (.var 2) ["list"]) (.cons (.exp (.mth .append (.var 2) (.cons (.cst (.str "more")) .nil)))
    (.cons (.set 4 (.cmp .eq (.blt .repr (.cons (.var 3) .nil)) (.blt .repr (.cons (.lsd false (.cons (.var 1) (.cons (.var 2) .nil))) .nil))))
    (.cons (.exp (.mth .pop (.var 2) .nil))
    (.cons (.ret (.var 4))
    .nil)))) .nil)
  (.cons (.ret (.cst (.bl true)))
  .nil))))
/-- _law_units_right: 0 _law_many 1 _law_unit 2 _law_odd 3 _law_k 4 _law_j -/
def b_law_units_right : Cs := (.cons (.set 1 (.tpd (.cons (.blt .tuple (.cons (.lc false (.one 3) (.rng1 (.var 0)) .nil (.blt .tuple (.cons (.lc false (.one 4) (.rng1 (.var 0)) .nil (.blt .int (.cons (.cmp .eq (.var 3) (.var 4)) .nil))) .nil))) .nil)) (.cons (.cst (.int 1)) .nil))))
  (.cons (.ife (.or (.cmp .ne (.blt .repr (.cons (.call 14 (.cons (.var 0) .nil)) .nil)) (.blt .repr (.cons (.tpd (.cons (.bin .mul (.tpd (.cons (.bin .mul (.tpd (.cons (.cst (.int 0)) .nil)) (.var 0)) .nil)) (.var 0)) (.cons (.cst (.int 1)) .nil))) .nil))) (.cmp .ne (.blt .repr (.cons (.call 15 (.cons (.var 0) .nil)) .nil)) (.blt .repr (.cons (.var 1) .nil)))) (.cons (.ret (.cst (.bl false)))
    .nil) .nil)
  (.cons (.forr (.one 2) (.val (.lsd false (.cons (.cst (.int 0)) (.cons (.cst (.int 13)) (.cons (.neg (.cst (.int 1))) (.cons (.cst (.bl true)) (.cons (.cst .non) (.cons (.cst (.str "2")) (.cons (.lsd true (.cons (.var 0) .nil)) (.cons (.tpd (.cons (.var 0) .nil)) (.cons (.bin .pow (.cst (.int 10)) (.cst (.int 29))) (.cons (.cst (.bl false)) .nil)))))))))))) (.cons (.ife (.or (.not (.call 37 (.cons (.glo "nought_table" (.fn 14)) (.cons (.cst (.str "number")) (.cons (.var 2) .nil))))) (.not (.call 37 (.cons (.glo "unit_table" (.fn 15)) (.cons (.cst (.str "number")) (.cons (.var 2) .nil)))))) (.cons (.ret (.cst (.bl false)))
      .nil) .nil)
    .nil))
  (.cons (.ret (.and (.call 32 (.cons (.call 14 (.cons (.var 0) .nil)) .nil)) (.call 32 (.cons (.call 15 (.cons (.var 0) .nil)) .nil))))
  .nil))))
/-- _law_told_right: 0 _law_rows 1 _law_table_here 2 _law_handed 3 _law_turn 4 _law_found 5 _law_told -/
def b_law_told_right : Cs := (.cons (.forr (.one 2) (.val (.lsd false (.cons (.blt .list (.cons (.var 0) .nil)) (.cons (.blt .tuple (.cons (.var 0) .nil)) .nil)))) (.cons (.set 4 (.call 12 (.cons (.var 2) .nil)))
    (.cons (.ife (.or (.not (.call 32 (.cons (.var 4) .nil))) (.or (.cmp .ne (.var 4) (.var 1)) (.cmp .ne (.blt .list (.cons (.var 2) .nil)) (.var 0)))) (.cons (.ret (.cst (.bl false)))
      .nil) .nil)
    .nil)))
  (.cons (.forr (.one 3) (.rng1 (.cst (.int 2))) (.cons (.set 5 (.call 13 (.cons (.var 1) .nil)))
    (.cons (.ife (.or (.not (.isi (.var 5) ["list"])) (.cmp .ne (.blt .repr (.cons (.var 5) .nil)) (.blt .repr (.cons (.var 0) .nil)))) (.cons (.ret (.cst (.bl false)))
      .nil) .nil)
    (.cons (.exp (.mth .append (.var 5) (.cons (.idx (.var 0) (.cst (.int 0))) .nil)))
    .nil))))
  (.cons (.ret (.cmp .is (.call 10 (.cons (.var 1) .nil)) (.cst (.bl true))))
  .nil)))
/-- law: 0 _law_script 1 _law_k 2 _law_purse_here 3 _law_way 4 _law_at 5 _law_most 6 _law_many 7 _law_wide 8 _law_rows 9 _law_table_here 10 _law_bad 11 _law_odd 12 _law_longer 13 _law_lists 14 _law_thing 15 _law_j 16 _law_some -/
def b_law : Cs := (.cons (.forr (.one 1) (.rng1 (.blt .max2 (.cons (.cst (.int 2)) (.cons (.blt .min2 (.cons (.cst (.int 8)) (.cons (.blt .len (.cons (.var 0) .nil)) .nil))) .nil)))) (.cons (.set 2 (.call 17 (.cons (.call 16 (.cons (.var 0) (.cons (.var 1) .nil))) .nil)))
    (.cons (.set 3 (.call 18 (.cons (.var 2) (.cons (.cst (.int 23)) .nil))))
    (.cons (.set 4 (.call 18 (.cons (.var 2) (.cons (.cst (.int 12)) .nil))))
    (.cons (.set 5 (.idx (.lsd false (.cons (.cst (.int 6)) (.cons (.cst (.int 12)) .nil))) (.blt .int (.cons (.cmp .eq (.call 18 (.cons (.var 2) (.cons (.cst (.int 8)) .nil))) (.cst (.int 5))) .nil))))
    (.cons (.set 6 (.bin .add (.cst (.int 1)) (.call 18 (.cons (.var 2) (.cons (.var 5) .nil)))))
    (.cons (.set 7 (.bin .add (.cst (.int 1)) (.call 18 (.cons (.var 2) (.cons (.var 5) .nil)))))
    (.cons (.set 8 (.lc false (.one 15) (.rng1 (.var 6)) .nil (.call 26 (.cons (.var 2) (.cons (.var 7) .nil)))))
    (.cons (.set 9 (.call 34 (.cons (.var 8) .nil)))
    (.cons (.ife (.or (.not (.call 39 (.cons (.var 8) (.cons (.var 9) .nil)))) (.not (.call 38 (.cons (.bin .add (.cst (.int 1)) (.var 4)) .nil)))) (.cons (.ret (.cst (.bl false)))
      .nil) .nil)
    (.cons (.set 10 (.call 35 (.cons (.var 2) (.cons (.var 9) (.cons (.var 3) .nil)))))
    (.cons (.ife (.or (.cmp .isn (.call 10 (.cons (.var 10) .nil)) (.cst (.bl false))) (.not (.call 37 (.cons (.glo "table_rows" (.fn 13)) (.cons (.cst (.str "table")) (.cons (.var 10) .nil)))))) (.cons (.ret (.cst (.bl false)))
      .nil) .nil)
    (.cons (.set 11 (.call 33 (.cons (.var 2) (.cons (.idx (.var 8) (.bin .mod (.var 4) (.var 6))) (.cons (.call 18 (.cons (.var 2) (.cons (.cst (.int 21)) .nil))) .nil)))))
    (.cons (.set 12 (.call 26 (.cons (.var 2) (.cons (.bin .add (.cst (.int 1)) (.bin .mod (.var 7) (.cst (.int 12)))) .nil))))
    (.cons (.set 13 (.lsd false (.cons (.bin .addR (.bin .add (.slc (.var 8) .no (.yes (.var 4))) (.lsd false (.cons (.var 11) .nil))) (.slc (.var 8) (.yes (.bin .add (.var 4) (.cst (.int 1)))) .no)) (.cons (.lsd true .nil) (.cons (.slcR (.bin .mul (.var 8) (.cst (.int 13))) .no (.yes (.cst (.int 13)))) (.cons (.blt .tuple (.cons (.slc (.bin .mul (.var 8) (.cst (.int 13))) .no (.yes (.cst (.int 13)))) .nil)) .nil))))))
    (.cons (.ife (.cmp .ne (.var 7) (.bin .add (.cst (.int 1)) (.bin .mod (.var 7) (.cst (.int 12))))) (.cons (.set 13 (.bin .add (.var 13) (.lsd false (.cons (.bin .addR (.bin .add (.slc (.var 8) .no (.yes (.var 4))) (.lsd false (.cons (.var 12) .nil))) (.slc (.var 8) (.yes (.var 4)) .no)) (.cons (.bin .addR (.lsd false (.cons (.var 12) .nil)) (.var 8)) .nil)))))
      .nil) .nil)
    (.cons (.forr (.one 14) (.val (.bin .add (.bin .add (.var 13) (.lc false (.one 16) (.val (.var 13)) .nil (.blt .tuple (.cons (.var 16) .nil)))) (.lsd false (.cons (.dcd .nil .nil) (.cons (.cst (.str "12")) (.cons (.cst (.int 5)) (.cons (.var 9) (.cons (.tpd .nil) (.cons (.cst (.bl true)) (.cons (.bin .mulR (.tpd (.cons (.cst .non) .nil)) (.var 6)) .nil)))))))))) (.cons (.ife (.not (.call 37 (.cons (.glo "table_of" (.fn 12)) (.cons (.cst (.str "table")) (.cons (.var 14) .nil))))) (.cons (.ret (.cst (.bl false)))
        .nil) .nil)
      .nil))
    .nil)))))))))))))))))
  (.cons (.ret (.cst (.bl true)))
  .nil))
def defs : List Df := [⟨1, 1, b_is_number⟩, ⟨3, 3, b_is_whole⟩, ⟨2, 2, b_common_part⟩, ⟨2, 4, b_common_of⟩, ⟨2, 4, b_short_row⟩, ⟨1, 2, b_are_numbers⟩, ⟨1, 1, b_is_row⟩, ⟨1, 1, b_need_many⟩, ⟨2, 5, b_short_table⟩, ⟨1, 2, b_are_rows⟩, ⟨1, 1, b_is_table⟩, ⟨1, 1, b_need_table⟩, ⟨1, 4, b_table_of⟩, ⟨1, 2, b_table_rows⟩, ⟨1, 1, b_nought_table⟩, ⟨1, 3, b_unit_table⟩, ⟨2, 2, b_law_cell⟩, ⟨1, 1, b_law_purse⟩, ⟨2, 5, b_law_take⟩, ⟨1, 5, b_law_number⟩, ⟨2, 2, b_law_common⟩, ⟨2, 3, b_law_low⟩, ⟨1, 2, b_law_ratio⟩, ⟨1, 2, b_law_is_ratio⟩, ⟨2, 2, b_law_same⟩, ⟨2, 4, b_law_short⟩, ⟨2, 5, b_law_row⟩, ⟨2, 5, b_law_flat⟩, ⟨3, 7, b_law_table⟩, ⟨1, 1, b_law_is_number⟩, ⟨1, 2, b_law_is_numbers⟩, ⟨1, 1, b_law_is_row⟩, ⟨1, 2, b_law_is_table⟩, ⟨3, 9, b_law_no_row⟩, ⟨1, 5, b_law_due⟩, ⟨3, 12, b_law_no_table⟩, ⟨2, 4, b_law_tried⟩, ⟨3, 5, b_law_refused⟩, ⟨1, 5, b_law_units_right⟩, ⟨2, 6, b_law_told_right⟩, ⟨1, 17, b_law⟩]
def subs : List (List Nat) := [[0], [1, 0], [2, 0]]
def sub (c d : Nat) : Bool := (subs.getD c []).contains d
def Pr : Pg := ⟨defs, 3, sub⟩
def q_is_number : Dd := ⟨⟨("is_number", none), "is_number", "is_number", L2.defArgs (tp 5), L2.defBody (tp 5), L2.defScope (tp 5), [], []⟩, ["thing"], ["thing"]⟩
def q_is_whole : Dd := ⟨⟨("is_whole", none), "is_whole", "is_whole", L2.defArgs (tp 6), L2.defBody (tp 6), L2.defScope (tp 6), [], []⟩, ["thing", "low", "high"], ["thing", "low", "high"]⟩
def q_common_part : Dd := ⟨⟨("common_part", none), "common_part", "common_part", L2.defArgs (tp 8), L2.defBody (tp 8), L2.defScope (tp 8), [], []⟩, ["one", "other"], ["one", "other"]⟩
def q_common_of : Dd := ⟨⟨("common_of", none), "common_of", "common_of", L2.defArgs (tp 11), L2.defBody (tp 11), L2.defScope (tp 11), [], []⟩, ["numbers", "bottom"], ["numbers", "bottom", "by", "number"]⟩
def q_short_row : Dd := ⟨⟨("short_row", none), "short_row", "short_row", L2.defArgs (tp 12), L2.defBody (tp 12), L2.defScope (tp 12), [], []⟩, ["numbers", "bottom"], ["numbers", "bottom", "by", "number"]⟩
def q_are_numbers : Dd := ⟨⟨("are_numbers", none), "are_numbers", "are_numbers", L2.defArgs (tp 13), L2.defBody (tp 13), L2.defScope (tp 13), [], []⟩, ["thing"], ["thing", "one"]⟩
def q_is_row : Dd := ⟨⟨("is_row", none), "is_row", "is_row", L2.defArgs (tp 14), L2.defBody (tp 14), L2.defScope (tp 14), [], []⟩, ["thing"], ["thing"]⟩
def q_need_many : Dd := ⟨⟨("need_many", none), "need_many", "need_many", L2.defArgs (tp 15), L2.defBody (tp 15), L2.defScope (tp 15), [], []⟩, ["many"], ["many"]⟩
def q_short_table : Dd := ⟨⟨("short_table", none), "short_table", "short_table", L2.defArgs (tp 17), L2.defBody (tp 17), L2.defScope (tp 17), [], []⟩, ["rows", "bottom"], ["rows", "bottom", "by", "row", "number"]⟩
def q_are_rows : Dd := ⟨⟨("are_rows", none), "are_rows", "are_rows", L2.defArgs (tp 18), L2.defBody (tp 18), L2.defScope (tp 18), [], []⟩, ["thing"], ["thing", "row"]⟩
def q_is_table : Dd := ⟨⟨("is_table", none), "is_table", "is_table", L2.defArgs (tp 19), L2.defBody (tp 19), L2.defScope (tp 19), [], []⟩, ["thing"], ["thing"]⟩
def q_need_table : Dd := ⟨⟨("need_table", none), "need_table", "need_table", L2.defArgs (tp 20), L2.defBody (tp 20), L2.defScope (tp 20), [], []⟩, ["thing"], ["thing"]⟩
def q_table_of : Dd := ⟨⟨("table_of", none), "table_of", "table_of", L2.defArgs (tp 21), L2.defBody (tp 21), L2.defScope (tp 21), [], []⟩, ["rows"], ["rows", "bottom", "row", "number"]⟩
def q_table_rows : Dd := ⟨⟨("table_rows", none), "table_rows", "table_rows", L2.defArgs (tp 22), L2.defBody (tp 22), L2.defScope (tp 22), [], []⟩, ["table"], ["table", "row"]⟩
def q_nought_table : Dd := ⟨⟨("nought_table", none), "nought_table", "nought_table", L2.defArgs (tp 23), L2.defBody (tp 23), L2.defScope (tp 23), [], []⟩, ["many"], ["many"]⟩
def q_unit_table : Dd := ⟨⟨("unit_table", none), "unit_table", "unit_table", L2.defArgs (tp 24), L2.defBody (tp 24), L2.defScope (tp 24), [], []⟩, ["many"], ["many", "place", "at"]⟩
def q_law_cell : Dd := ⟨⟨("_law_cell", none), "_law_cell", "_law_cell", L2.defArgs (tp 26), L2.defBody (tp 26), L2.defScope (tp 26), [], []⟩, ["_law_script", "_law_k"], ["_law_script", "_law_k"]⟩
def q_law_purse : Dd := ⟨⟨("_law_purse", none), "_law_purse", "_law_purse", L2.defArgs (tp 27), L2.defBody (tp 27), L2.defScope (tp 27), [], []⟩, ["_law_cell_here"], ["_law_cell_here"]⟩
def q_law_take : Dd := ⟨⟨("_law_take", none), "_law_take", "_law_take", L2.defArgs (tp 28), L2.defBody (tp 28), L2.defScope (tp 28), [], []⟩, ["_law_purse_here", "_law_many"], ["_law_purse_here", "_law_many", "_law_seed", "_law_number_here", "_law_digit"]⟩
def q_law_number : Dd := ⟨⟨("_law_number", none), "_law_number", "_law_number", L2.defArgs (tp 29), L2.defBody (tp 29), L2.defScope (tp 29), [], []⟩, ["_law_purse_here"], ["_law_purse_here", "_law_way", "_law_turn", "_law_number_here", "_law_k"]⟩
def q_law_common : Dd := ⟨⟨("_law_common", none), "_law_common", "_law_common", L2.defArgs (tp 30), L2.defBody (tp 30), L2.defScope (tp 30), [], []⟩, ["_law_one", "_law_other"], ["_law_one", "_law_other"]⟩
def q_law_low : Dd := ⟨⟨("_law_low", none), "_law_low", "_law_low", L2.defArgs (tp 31), L2.defBody (tp 31), L2.defScope (tp 31), [], []⟩, ["_law_top", "_law_bottom"], ["_law_top", "_law_bottom", "_law_by"]⟩
def q_law_ratio : Dd := ⟨⟨("_law_ratio", none), "_law_ratio", "_law_ratio", L2.defArgs (tp 32), L2.defBody (tp 32), L2.defScope (tp 32), [], []⟩, ["_law_purse_here"], ["_law_purse_here", "_law_top"]⟩
def q_law_is_ratio : Dd := ⟨⟨("_law_is_ratio", none), "_law_is_ratio", "_law_is_ratio", L2.defArgs (tp 33), L2.defBody (tp 33), L2.defScope (tp 33), [], []⟩, ["_law_found"], ["_law_found", "_law_number_here"]⟩
def q_law_same : Dd := ⟨⟨("_law_same", none), "_law_same", "_law_same", L2.defArgs (tp 34), L2.defBody (tp 34), L2.defScope (tp 34), [], []⟩, ["_law_found", "_law_due_here"], ["_law_found", "_law_due_here"]⟩
def q_law_short : Dd := ⟨⟨("_law_short", none), "_law_short", "_law_short", L2.defArgs (tp 35), L2.defBody (tp 35), L2.defScope (tp 35), [], []⟩, ["_law_numbers", "_law_bottom"], ["_law_numbers", "_law_bottom", "_law_by", "_law_number_here"]⟩
def q_law_row : Dd := ⟨⟨("_law_row", none), "_law_row", "_law_row", L2.defArgs (tp 36), L2.defBody (tp 36), L2.defScope (tp 36), [], []⟩, ["_law_purse_here", "_law_many"], ["_law_purse_here", "_law_many", "_law_bottom", "_law_numbers", "_law_k"]⟩
def q_law_flat : Dd := ⟨⟨("_law_flat", none), "_law_flat", "_law_flat", L2.defArgs (tp 37), L2.defBody (tp 37), L2.defScope (tp 37), [], []⟩, ["_law_rows", "_law_bottom"], ["_law_rows", "_law_bottom", "_law_by", "_law_row_here", "_law_number_here"]⟩
def q_law_table : Dd := ⟨⟨("_law_table", none), "_law_table", "_law_table", L2.defArgs (tp 38), L2.defBody (tp 38), L2.defScope (tp 38), [], []⟩, ["_law_purse_here", "_law_many", "_law_wide"], ["_law_purse_here", "_law_many", "_law_wide", "_law_bottom", "_law_rows", "_law_k", "_law_j"]⟩
def q_law_is_number : Dd := ⟨⟨("_law_is_number", none), "_law_is_number", "_law_is_number", L2.defArgs (tp 39), L2.defBody (tp 39), L2.defScope (tp 39), [], []⟩, ["_law_thing"], ["_law_thing"]⟩
def q_law_is_numbers : Dd := ⟨⟨("_law_is_numbers", none), "_law_is_numbers", "_law_is_numbers", L2.defArgs (tp 40), L2.defBody (tp 40), L2.defScope (tp 40), [], []⟩, ["_law_thing"], ["_law_thing", "_law_one"]⟩
def q_law_is_row : Dd := ⟨⟨("_law_is_row", none), "_law_is_row", "_law_is_row", L2.defArgs (tp 41), L2.defBody (tp 41), L2.defScope (tp 41), [], []⟩, ["_law_thing"], ["_law_thing"]⟩
def q_law_is_table : Dd := ⟨⟨("_law_is_table", none), "_law_is_table", "_law_is_table", L2.defArgs (tp 42), L2.defBody (tp 42), L2.defScope (tp 42), [], []⟩, ["_law_thing"], ["_law_thing", "_law_row_here"]⟩
def q_law_no_row : Dd := ⟨⟨("_law_no_row", none), "_law_no_row", "_law_no_row", L2.defArgs (tp 43), L2.defBody (tp 43), L2.defScope (tp 43), [], []⟩, ["_law_purse_here", "_law_row_here", "_law_way"], ["_law_purse_here", "_law_row_here", "_law_way", "_law_at", "_law_odd", "_law_some", "_law_numbers", "_law_bottom", "_law_one"]⟩
def q_law_due : Dd := ⟨⟨("_law_due", none), "_law_due", "_law_due", L2.defArgs (tp 44), L2.defBody (tp 44), L2.defScope (tp 44), [], []⟩, ["_law_rows"], ["_law_rows", "_law_bottom", "_law_numbers", "_law_under", "_law_number_here"]⟩
def q_law_no_table : Dd := ⟨⟨("_law_no_table", none), "_law_no_table", "_law_no_table", L2.defArgs (tp 45), L2.defBody (tp 45), L2.defScope (tp 45), [], []⟩, ["_law_purse_here", "_law_table_here", "_law_way"], ["_law_purse_here", "_law_table_here", "_law_way", "_law_at", "_law_place", "_law_odd", "_law_bent", "_law_some", "_law_rows", "_law_bottom", "_law_row_here", "_law_one"]⟩
def q_law_tried : Dd := ⟨⟨("_law_tried", none), "_law_tried", "_law_tried", L2.defArgs (tp 46), L2.defBody (tp 46), L2.defScope (tp 46), [], []⟩, ["_law_call", "_law_thing"], ["_law_call", "_law_thing", "_law_told", "e"]⟩
def q_law_refused : Dd := ⟨⟨("_law_refused", none), "_law_refused", "_law_refused", L2.defArgs (tp 47), L2.defBody (tp 47), L2.defScope (tp 47), [], []⟩, ["_law_call", "_law_word", "_law_due_here"], ["_law_call", "_law_word", "_law_due_here", "_law_told", "_law_same_here"]⟩
def q_law_units_right : Dd := ⟨⟨("_law_units_right", none), "_law_units_right", "_law_units_right", L2.defArgs (tp 48), L2.defBody (tp 48), L2.defScope (tp 48), [], []⟩, ["_law_many"], ["_law_many", "_law_unit", "_law_odd", "_law_k", "_law_j"]⟩
def q_law_told_right : Dd := ⟨⟨("_law_told_right", none), "_law_told_right", "_law_told_right", L2.defArgs (tp 49), L2.defBody (tp 49), L2.defScope (tp 49), [], []⟩, ["_law_rows", "_law_table_here"], ["_law_rows", "_law_table_here", "_law_handed", "_law_turn", "_law_found", "_law_told"]⟩
def q_law : Dd := ⟨⟨("law", none), "law", "law", L2.defArgs (tp 50), L2.defBody (tp 50), L2.defScope (tp 50), [], []⟩, ["_law_script"], ["_law_script", "_law_k", "_law_purse_here", "_law_way", "_law_at", "_law_most", "_law_many", "_law_wide", "_law_rows", "_law_table_here", "_law_bad", "_law_odd", "_law_longer", "_law_lists", "_law_thing", "_law_j", "_law_some"]⟩
def i_NoTable : Dd := ⟨⟨("NoTable", some ("__init__" : Str)), "__init__", "NoTable.__init__", L2.defArgs (tm 2 0), L2.defBody (tm 2 0), L2.defScope (tm 2 0), [], []⟩, ["self", "found"], ["self", "found"]⟩
def i_NoNumber : Dd := ⟨⟨("NoNumber", some ("__init__" : Str)), "__init__", "NoNumber.__init__", L2.defArgs (tm 3 0), L2.defBody (tm 3 0), L2.defScope (tm 3 0), [], []⟩, ["self", "found"], ["self", "found"]⟩
def tab : Tab := ⟨["isinstance", "bool", "int", "abs", "tuple", "all", "len", "list", "range", "repr", "max", "min"], (("is_number" : Str) :: ("is_whole" : Str) :: ("common_part" : Str) :: ("common_of" : Str) :: ("short_row" : Str) :: ("are_numbers" : Str) :: ("is_row" : Str) :: ("need_many" : Str) :: ("short_table" : Str) :: ("are_rows" : Str) :: ("is_table" : Str) :: ("need_table" : Str) :: ("table_of" : Str) :: ("table_rows" : Str) :: ("nought_table" : Str) :: ("unit_table" : Str) :: ("_law_cell" : Str) :: ("_law_purse" : Str) :: ("_law_take" : Str) :: ("_law_number" : Str) :: ("_law_common" : Str) :: ("_law_low" : Str) :: ("_law_ratio" : Str) :: ("_law_is_ratio" : Str) :: ("_law_same" : Str) :: ("_law_short" : Str) :: ("_law_row" : Str) :: ("_law_flat" : Str) :: ("_law_table" : Str) :: ("_law_is_number" : Str) :: ("_law_is_numbers" : Str) :: ("_law_is_row" : Str) :: ("_law_is_table" : Str) :: ("_law_no_row" : Str) :: ("_law_due" : Str) :: ("_law_no_table" : Str) :: ("_law_tried" : Str) :: ("_law_refused" : Str) :: ("_law_units_right" : Str) :: ("_law_told_right" : Str) :: ("law" : Str) :: []), ["GuessError", "NoTable", "NoNumber"], [1, 2], [[], ["found"], ["found"]], [("MOST", (.int 12))]⟩
def xds : List Xd := [⟨"GuessError", [], none⟩, ⟨"NoTable", ["found"], some 0⟩, ⟨"NoNumber", ["found"], some 1⟩]
def all : Whole := ⟨tab, Pr, [q_is_number, q_is_whole, q_common_part, q_common_of, q_short_row, q_are_numbers, q_is_row, q_need_many, q_short_table, q_are_rows, q_is_table, q_need_table, q_table_of, q_table_rows, q_nought_table, q_unit_table, q_law_cell, q_law_purse, q_law_take, q_law_number, q_law_common, q_law_low, q_law_ratio, q_law_is_ratio, q_law_same, q_law_short, q_law_row, q_law_flat, q_law_table, q_law_is_number, q_law_is_numbers, q_law_is_row, q_law_is_table, q_law_no_row, q_law_due, q_law_no_table, q_law_tried, q_law_refused, q_law_units_right, q_law_told_right, q_law], [i_NoTable, i_NoNumber], xds⟩
theorem all_ok : all.ok = true := by kernel_rfl
theorem d_is_number : BindOk q_is_number := fun _ _ _ _ _ _ us hl => match us, hl with | [_], _ => rfl
theorem d_is_whole : BindOk q_is_whole := fun _ _ _ _ _ _ us hl => match us, hl with | [_, _, _], _ => rfl
theorem d_common_part : BindOk q_common_part := fun _ _ _ _ _ _ us hl => match us, hl with | [_, _], _ => rfl
theorem d_common_of : BindOk q_common_of := fun _ _ _ _ _ _ us hl => match us, hl with | [_, _], _ => rfl
theorem d_short_row : BindOk q_short_row := fun _ _ _ _ _ _ us hl => match us, hl with | [_, _], _ => rfl
theorem d_are_numbers : BindOk q_are_numbers := fun _ _ _ _ _ _ us hl => match us, hl with | [_], _ => rfl
theorem d_is_row : BindOk q_is_row := fun _ _ _ _ _ _ us hl => match us, hl with | [_], _ => rfl
theorem d_need_many : BindOk q_need_many := fun _ _ _ _ _ _ us hl => match us, hl with | [_], _ => rfl
theorem d_short_table : BindOk q_short_table := fun _ _ _ _ _ _ us hl => match us, hl with | [_, _], _ => rfl
theorem d_are_rows : BindOk q_are_rows := fun _ _ _ _ _ _ us hl => match us, hl with | [_], _ => rfl
theorem d_is_table : BindOk q_is_table := fun _ _ _ _ _ _ us hl => match us, hl with | [_], _ => rfl
theorem d_need_table : BindOk q_need_table := fun _ _ _ _ _ _ us hl => match us, hl with | [_], _ => rfl
theorem d_table_of : BindOk q_table_of := fun _ _ _ _ _ _ us hl => match us, hl with | [_], _ => rfl
theorem d_table_rows : BindOk q_table_rows := fun _ _ _ _ _ _ us hl => match us, hl with | [_], _ => rfl
theorem d_nought_table : BindOk q_nought_table := fun _ _ _ _ _ _ us hl => match us, hl with | [_], _ => rfl
theorem d_unit_table : BindOk q_unit_table := fun _ _ _ _ _ _ us hl => match us, hl with | [_], _ => rfl
theorem d_law_cell : BindOk q_law_cell := fun _ _ _ _ _ _ us hl => match us, hl with | [_, _], _ => rfl
theorem d_law_purse : BindOk q_law_purse := fun _ _ _ _ _ _ us hl => match us, hl with | [_], _ => rfl
theorem d_law_take : BindOk q_law_take := fun _ _ _ _ _ _ us hl => match us, hl with | [_, _], _ => rfl
theorem d_law_number : BindOk q_law_number := fun _ _ _ _ _ _ us hl => match us, hl with | [_], _ => rfl
theorem d_law_common : BindOk q_law_common := fun _ _ _ _ _ _ us hl => match us, hl with | [_, _], _ => rfl
theorem d_law_low : BindOk q_law_low := fun _ _ _ _ _ _ us hl => match us, hl with | [_, _], _ => rfl
theorem d_law_ratio : BindOk q_law_ratio := fun _ _ _ _ _ _ us hl => match us, hl with | [_], _ => rfl
theorem d_law_is_ratio : BindOk q_law_is_ratio := fun _ _ _ _ _ _ us hl => match us, hl with | [_], _ => rfl
theorem d_law_same : BindOk q_law_same := fun _ _ _ _ _ _ us hl => match us, hl with | [_, _], _ => rfl
theorem d_law_short : BindOk q_law_short := fun _ _ _ _ _ _ us hl => match us, hl with | [_, _], _ => rfl
theorem d_law_row : BindOk q_law_row := fun _ _ _ _ _ _ us hl => match us, hl with | [_, _], _ => rfl
theorem d_law_flat : BindOk q_law_flat := fun _ _ _ _ _ _ us hl => match us, hl with | [_, _], _ => rfl
theorem d_law_table : BindOk q_law_table := fun _ _ _ _ _ _ us hl => match us, hl with | [_, _, _], _ => rfl
theorem d_law_is_number : BindOk q_law_is_number := fun _ _ _ _ _ _ us hl => match us, hl with | [_], _ => rfl
theorem d_law_is_numbers : BindOk q_law_is_numbers := fun _ _ _ _ _ _ us hl => match us, hl with | [_], _ => rfl
theorem d_law_is_row : BindOk q_law_is_row := fun _ _ _ _ _ _ us hl => match us, hl with | [_], _ => rfl
theorem d_law_is_table : BindOk q_law_is_table := fun _ _ _ _ _ _ us hl => match us, hl with | [_], _ => rfl
theorem d_law_no_row : BindOk q_law_no_row := fun _ _ _ _ _ _ us hl => match us, hl with | [_, _, _], _ => rfl
theorem d_law_due : BindOk q_law_due := fun _ _ _ _ _ _ us hl => match us, hl with | [_], _ => rfl
theorem d_law_no_table : BindOk q_law_no_table := fun _ _ _ _ _ _ us hl => match us, hl with | [_, _, _], _ => rfl
theorem d_law_tried : BindOk q_law_tried := fun _ _ _ _ _ _ us hl => match us, hl with | [_, _], _ => rfl
theorem d_law_refused : BindOk q_law_refused := fun _ _ _ _ _ _ us hl => match us, hl with | [_, _, _], _ => rfl
theorem d_law_units_right : BindOk q_law_units_right := fun _ _ _ _ _ _ us hl => match us, hl with | [_], _ => rfl
theorem d_law_told_right : BindOk q_law_told_right := fun _ _ _ _ _ _ us hl => match us, hl with | [_, _], _ => rfl
theorem d_law : BindOk q_law := fun _ _ _ _ _ _ us hl => match us, hl with | [_], _ => rfl
theorem e_NoTable : BindOk i_NoTable := fun _ _ _ _ _ _ us hl => match us, hl with | [_, _], _ => rfl
theorem e_NoNumber : BindOk i_NoNumber := fun _ _ _ _ _ _ us hl => match us, hl with | [_, _], _ => rfl
theorem all_bd : ∀ q ∈ all.qs ++ all.is, BindOk q := by
  intro q hq
  simp only [all, List.cons_append, List.nil_append, List.mem_cons, List.not_mem_nil, or_false] at hq
  rcases hq with rfl | rfl | rfl | rfl | rfl | rfl | rfl | rfl | rfl | rfl | rfl | rfl | rfl | rfl | rfl | rfl | rfl | rfl | rfl | rfl | rfl | rfl | rfl | rfl | rfl | rfl | rfl | rfl | rfl | rfl | rfl | rfl | rfl | rfl | rfl | rfl | rfl | rfl | rfl | rfl | rfl | rfl | rfl
  · exact d_is_number
  · exact d_is_whole
  · exact d_common_part
  · exact d_common_of
  · exact d_short_row
  · exact d_are_numbers
  · exact d_is_row
  · exact d_need_many
  · exact d_short_table
  · exact d_are_rows
  · exact d_is_table
  · exact d_need_table
  · exact d_table_of
  · exact d_table_rows
  · exact d_nought_table
  · exact d_unit_table
  · exact d_law_cell
  · exact d_law_purse
  · exact d_law_take
  · exact d_law_number
  · exact d_law_common
  · exact d_law_low
  · exact d_law_ratio
  · exact d_law_is_ratio
  · exact d_law_same
  · exact d_law_short
  · exact d_law_row
  · exact d_law_flat
  · exact d_law_table
  · exact d_law_is_number
  · exact d_law_is_numbers
  · exact d_law_is_row
  · exact d_law_is_table
  · exact d_law_no_row
  · exact d_law_due
  · exact d_law_no_table
  · exact d_law_tried
  · exact d_law_refused
  · exact d_law_units_right
  · exact d_law_told_right
  · exact d_law
  · exact e_NoTable
  · exact e_NoNumber
abbrev R : PySem.W.OpenRow := PySem.W.OpenLaw.row PySem.Challenge.rw_guesswalk_k07_tables_told
abbrev hk : PySem.W.Hook := hookX 4 all.fa all.fn all.xs
def ob (s : PySem.W.SharedT) : AlG := obsX 4 all.fa all.fn all.xs (HandSHeadRun.getT s)
theorem ob_eq (s : PySem.W.SharedT) : ob s = hk.obs s.abs := obsX_eq (HandSHeadRun.getT_eq s)
def loose : List Str := (("__name__" : Str) :: ("MOST" : Str) :: ("GuessError" : Str) :: ("NoTable" : Str) :: ("NoNumber" : Str) :: ("is_number" : Str) :: ("is_whole" : Str) :: ("common_part" : Str) :: ("common_of" : Str) :: ("short_row" : Str) :: ("are_numbers" : Str) :: ("is_row" : Str) :: ("need_many" : Str) :: ("short_table" : Str) :: ("are_rows" : Str) :: ("is_table" : Str) :: ("need_table" : Str) :: ("table_of" : Str) :: ("table_rows" : Str) :: ("nought_table" : Str) :: ("unit_table" : Str) :: ("_law_cell" : Str) :: ("_law_purse" : Str) :: ("_law_take" : Str) :: ("_law_number" : Str) :: ("_law_common" : Str) :: ("_law_low" : Str) :: ("_law_ratio" : Str) :: ("_law_is_ratio" : Str) :: ("_law_same" : Str) :: ("_law_short" : Str) :: ("_law_row" : Str) :: ("_law_flat" : Str) :: ("_law_table" : Str) :: ("_law_is_number" : Str) :: ("_law_is_numbers" : Str) :: ("_law_is_row" : Str) :: ("_law_is_table" : Str) :: ("_law_no_row" : Str) :: ("_law_due" : Str) :: ("_law_no_table" : Str) :: ("_law_tried" : Str) :: ("_law_refused" : Str) :: ("_law_units_right" : Str) :: ("_law_told_right" : Str) :: [])
theorem run (w : World) : HandSHeadRun.RunEq R (PySem.W.view R.prog [50]) hk ob 6000 loose w := by
  intro os
  kernel_rfl
def lawIx : Nat := 40
end K07
set_option exponentiation.threshold 20000
namespace K07
open PySem GW
section
variable {fu : Nat}
theorem s_is_number (hf : 2 ^ 9000 ≤ fu) : At Pr fu 1 0 cNum := isnum_at rfl
theorem s_is_whole (hf : 2 ^ 9000 ≤ fu) : At Pr fu 2 1 cWhole := is_whole_at rfl ((s_is_number hf).up (by decide))
theorem s_common_part (hf : 2 ^ 9000 ≤ fu) : At Pr fu 1 2 (cGcd fu) := part_at rfl
theorem s_common_of (hf : 2 ^ 9000 ≤ fu) : At Pr fu 2 3 cCommonOf := common_of_at rfl hf ((s_common_part hf).up (by decide))
theorem s_short_row (hf : 2 ^ 9000 ≤ fu) : At Pr fu 3 4 cShort := short_row_at rfl ((s_common_of hf).up (by decide))
theorem s_are_numbers (hf : 2 ^ 9000 ≤ fu) : At Pr fu 2 5 (cTest isNums) := are_numbers_at rfl ((s_is_number hf).up (by decide))
theorem s_is_row (hf : 2 ^ 9000 ≤ fu) : At Pr fu 3 6 (cTest isRow) := is_row_at rfl ((s_are_numbers hf).up (by decide)) ((s_is_number hf).up (by decide)) ((s_common_of hf).up (by decide))
theorem s_need_many (hf : 2 ^ 9000 ≤ fu) : At Pr fu 3 7 (cNeed (isWh 1 12) 2) := need_many_at (k := 2) rfl ((s_is_whole hf).up (by decide))
theorem s_short_table (hf : 2 ^ 9000 ≤ fu) : At Pr fu 3 8 cShortT := short_table_at rfl ((s_common_of hf).up (by decide))
theorem s_are_rows (hf : 2 ^ 9000 ≤ fu) : At Pr fu 3 9 (cTest isRws) := are_rows_at rfl ((s_are_numbers hf).up (by decide))
theorem s_is_table (hf : 2 ^ 9000 ≤ fu) : At Pr fu 4 10 (cTest isTab) := is_table_at rfl ((s_are_rows hf).up (by decide)) ((s_is_number hf).up (by decide)) ((s_short_table hf).up (by decide))
theorem s_need_table (hf : 2 ^ 9000 ≤ fu) : At Pr fu 5 11 (cNeed isTab 1) := need_at (t := isTab) (c := 1) rfl ((s_is_table hf).up (by decide))
theorem s_table_of (hf : 2 ^ 9000 ≤ fu) : At Pr fu 4 12 cTableOk := table_of_ok (k := 1) rfl ((s_is_row hf).up (by decide)) ((s_common_part hf).up (by decide)) ((s_short_table hf).up (by decide)) hf
theorem s_table_rows (hf : 2 ^ 9000 ≤ fu) : At Pr fu 6 13 (cTabRows 1) := table_rows_at (k := 1) rfl ((s_need_table hf).up (by decide)) ((s_short_row hf).up (by decide))
theorem s_nought_table (hf : 2 ^ 9000 ≤ fu) : At Pr fu 4 14 (cMade 2 fun m => noughtT m m) := nought_table_at (k := 2) rfl ((s_need_many hf).up (by decide))
theorem s_unit_table (hf : 2 ^ 9000 ≤ fu) : At Pr fu 4 15 (cMade 2 unitT) := unit_table_at (k := 2) rfl ((s_need_many hf).up (by decide))
theorem s_law_cell (hf : 2 ^ 9000 ≤ fu) : At Pr fu 1 16 cCell := cell_at rfl
theorem s_law_purse (hf : 2 ^ 9000 ≤ fu) : At Pr fu 1 17 cPurse := purse_at rfl
theorem s_law_take (hf : 2 ^ 9000 ≤ fu) : At Pr fu 1 18 cTake := take_at rfl
theorem s_law_number (hf : 2 ^ 9000 ≤ fu) : At Pr fu 2 19 cNumber := number_at rfl rfl (Nat.le_refl 1)
theorem s_law_common (hf : 2 ^ 9000 ≤ fu) : At Pr fu 1 20 (cGcd fu) := common_at rfl
theorem s_law_low (hf : 2 ^ 9000 ≤ fu) : At Pr fu 2 21 cLow := low_at rfl hf ((s_law_common hf).up (by decide))
theorem s_law_ratio (hf : 2 ^ 9000 ≤ fu) : At Pr fu 3 22 cRatio := ratio_at rfl ((s_law_number hf).up (by decide)) ((s_law_low hf).up (by decide)) ((s_law_take hf).up (by decide))
theorem s_law_short (hf : 2 ^ 9000 ≤ fu) : At Pr fu 2 25 cShort := l_short_at rfl hf ((s_law_common hf).up (by decide))
theorem s_law_row (hf : 2 ^ 9000 ≤ fu) : At Pr fu 3 26 cRow := row_at rfl ((s_law_number hf).up (by decide)) ((s_law_take hf).up (by decide)) ((s_law_short hf).up (by decide))
theorem s_law_flat (hf : 2 ^ 9000 ≤ fu) : At Pr fu 2 27 cShortT := l_flat_at rfl hf ((s_law_common hf).up (by decide))
theorem s_law_table (hf : 2 ^ 9000 ≤ fu) : At Pr fu 3 28 cTable := table_at rfl ((s_law_number hf).up (by decide)) ((s_law_take hf).up (by decide)) ((s_law_flat hf).up (by decide))
theorem s_law_is_number (hf : 2 ^ 9000 ≤ fu) : At Pr fu 1 29 cNum := isnum_at rfl
theorem s_law_is_numbers (hf : 2 ^ 9000 ≤ fu) : At Pr fu 2 30 (fun f => ∀ (S : Store) (ns : List Int), 1 ≤ ns.length → ns.length ≤ 12 → (∀ x ∈ ns, x.natAbs < 2 ^ 9000) → f [.tup (ns.map .int)] S = .ok (.bl true) S) := l_is_numbers_at rfl ((s_law_is_number hf).up (by decide))
theorem s_law_is_row (hf : 2 ^ 9000 ≤ fu) : At Pr fu 3 31 cGoodRow := l_is_row_at rfl ((s_law_is_numbers hf).up (by decide)) ((s_law_is_number hf).up (by decide)) ((s_law_short hf).up (by decide))
theorem s_law_is_table (hf : 2 ^ 9000 ≤ fu) : At Pr fu 3 32 cGoodTab := l_is_table_at rfl ((s_law_is_number hf).up (by decide)) ((s_law_is_numbers hf).up (by decide)) ((s_law_flat hf).up (by decide))
theorem s_law_no_row (hf : 2 ^ 9000 ≤ fu) : At Pr fu 2 33 (cNoRow false) := no_row_at (b1 := false) (b2 := false) (b3 := false) (by first | exact .inl rfl | exact .inr rfl) rfl ((s_law_take hf).up (by decide))
theorem s_law_due (hf : 2 ^ 9000 ≤ fu) : At Pr fu 3 34 cTDue := t_due_at rfl ((s_law_common hf).up (by decide)) ((s_law_flat hf).up (by decide)) hf
theorem s_law_no_table (hf : 2 ^ 9000 ≤ fu) : At Pr fu 2 35 cNoTable := no_table_at rfl ((s_law_take hf).up (by decide))
end
end K07
set_option exponentiation.threshold 20000
namespace K07
open PySem GW
def word : Nat → Str
  | 1 => "table"
  | _ => "number"
section
variable {fu n : Nat}
theorem tried1 {c k : Nat} {u w : Val} {S : Store} (hc : c < 41) (hk : k = 1 ∨ k = 2) (h : callN Pr fu n c [u] S = .exc k [w] S) : callN Pr fu (n + 1) 36 [.fn c, u] S = .ok (.lst [.str (word k), w]) S := by
  rw [call_eq (d := ⟨2, 4, b_law_tried⟩) rfl]
  have hc' : c < Pr.defs.length := hc
  have h1 : (1 : Nat) < Pr.nc := by decide
  have h2 : (2 : Nat) < Pr.nc := by decide
  have s11 : Pr.sub 1 1 = true := by decide
  have s22 : Pr.sub 2 2 = true := by decide
  have s21 : Pr.sub 2 1 = false := by decide
  have s12 : Pr.sub 1 2 = false := by decide
  have hl : ∀ x y : Val, mkL false [x, y] S = .ok (.lst [x, y]) S := fun x y => mkL_f (sz_le (by simp))
  rcases hk with rfl | rfl
  · simp [runD, b_law_tried, start0, hc', h, h1, s12, s11, Fl.out, hl, word]
  · simp [runD, b_law_tried, start0, hc', h, h1, h2, s22, s12, s21, Fl.out, hl, word]
theorem word_ok (k : Nat) : ((word k).cps.toList.all fun c => decide (c < 128)) = true ∧ (word k).cps.size ≤ 20 := by
  unfold word; split <;> exact ⟨by decide, by decide⟩
theorem refused1 {c k : Nat} {due : Val} {S : Store} (hc : c < 41) (hk : k = 1 ∨ k = 2) (hd : Due S due) (h : callN Pr fu n c [due] S = .exc k [due] S) : callN Pr fu (n + 2) 37 [.fn c, .str (word k), due] S = .ok (.bl true) S := by
  have ht := tried1 hc hk h
  have hw := (word_ok k).1
  have hs := (word_ok k).2
  obtain ⟨z, ez⟩ := sh_word hd.sh hw hs
  rw [call_eq (d := ⟨3, 5, b_law_refused⟩) rfl]
  refine W.eq ?_
  rw [W_run rfl]
  simp! [b_law_refused, ht, ez, str_ne]
  rcases hd.ls with e | ⟨m, zs, rfl, e, hz, hsh⟩
  · simp! [e]
  · have hm := (List.getElem?_eq_some_iff.mp e).1
    obtain ⟨z2, ez2⟩ := sh_word hsh hw hs
    have e2 : (S.set m (.lst (zs ++ [more])))[m]? = some (.lst (zs ++ [more])) := List.getElem?_set_self hm
    simp! [isi_ref e, tyOk_ref e .append rfl, show mthV .append (.ref m) [.str "more"] S = .ok .non (S.set m (.lst (zs ++ [more]))) from mth_append e (by omega) more, ez2, str_eq, tyOk_ref e2 .pop rfl, mth_pop e2, set_back e]
end
end K07
set_option exponentiation.threshold 20000
namespace K07
open PySem GW
section
theorem due_flat {S : Store} {v : Val} (h : Lf S 9 v) (hc : cnt v ≤ 400) (hl : isiE S v ["list"] = some false) : Due S v := ⟨sh_up h (by omega) (by decide), .inl hl⟩
theorem due_one {S : Store} {m : Nat} {i : Int} (e : S[m]? = some (.lst [.int i])) (h : i.natAbs < 2 ^ 1900) : Due S (.ref m) := Odd.due ⟨.inr ⟨_, e, ⟨h, trivial⟩, by simp [cnts, cnt], by simp⟩, by simp [cnt]⟩ rfl
theorem W_pow29 {S : Store} {Q : Val → Store → Prop} {X : Xt} : W (bopV .pow (.int 10) (.int 29) S) Q X = Q (.int 100000000000000000000000000000) S := by rw [show (29 : Int) = ((29 : Nat) : Int) from rfl, pow_at 29 (by decide)]; rfl
/-- what is no number, and due -/
structure Bad (S : Store) (v : Val) : Prop where
  ok : Okv S v
  due : Due S v
theorem bad_int {S : Store} {i : Int} (h : i.natAbs < 2 ^ 1900) : Bad S (.int i) := ⟨pow_up h (by decide), due_flat (S := S) (v := .int i) (by exact h) (Nat.zero_le _) rfl⟩
theorem bad_bl {S : Store} (b : Bool) : Bad S (.bl b) := ⟨trivial, due_flat trivial (Nat.zero_le _) rfl⟩
theorem bad_non {S : Store} : Bad S .non := ⟨trivial, due_flat trivial (Nat.zero_le _) rfl⟩
theorem bad_str {S : Store} {z : Str} (h : (z.cps.toList.all fun c => decide (c < 128)) = true) (hs : z.cps.size ≤ 8) : Bad S (.str z) := ⟨Nat.le_trans hs (by decide), due_flat ⟨h, hs⟩ (show 8 ≤ 400 by decide) rfl⟩
theorem bad_one {S : Store} {m : Nat} {i : Int} (e : S[m]? = some (.lst [.int i])) (h : i.natAbs < 2 ^ 1900) : Bad S (.ref m) := ⟨⟨_, e⟩, due_one e h⟩
theorem bad_tup {S : Store} {i : Int} (h : i.natAbs < 2 ^ 1900) : Bad S (.tup [.int i]) := ⟨⟨pow_up h (by decide), trivial⟩, due_flat ⟨h, trivial⟩ (by simp [cnt, cnts]) rfl⟩

end
theorem repr_tab (S : Store) {rs : List (List Int)} {b : Int} {w : Nat} (r : IsTab rs b w) (k : Bdd 1900 rs.flatten b) : ∃ z, bltV .repr [tabV rs b] S = .ok (.str z) S := repr_lf (k := 4) ⟨lfs_rows k.ns, k.b, trivial⟩ (by decide) (Nat.le_trans (cnt_tab rs b r.hi fun x hx => by rw [r.wd x hx]; exact r.whi) (by decide))
section
variable {fu : Nat}
def cUnits : Ct := fun f => ∀ (S : Store) (m : Nat), 1 ≤ m → m ≤ 12 → ∃ T, f [.int m] S = .ok (.bl true) (S ++ T)
theorem units_right (hf : 2 ^ 9000 ≤ fu) : At Pr fu 9 38 cUnits := .mk (d := 8) (df := ⟨1, 5, b_law_units_right⟩) rfl fun n hd S many m1 m2 => by
  obtain ⟨m, rfl⟩ : ∃ m, n = m + 2 := ⟨n - 2, by omega⟩
  have tn := nought_tab m1 m2 m1 m2
  have tu := unit_tab m1 m2
  have kn := nought_bd many many 1900 (by decide)
  have ku := unit_bd many 1900 (by decide)
  have hz1 := repr_tab S tn kn
  have hz2 := repr_tab S tu ku
  have z1e := hz1.choose_spec
  have z2e := hz2.choose_spec
  generalize hz1.choose = z1 at z1e
  generalize hz2.choose = z2 at z2e
  have e1 := fun S => (s_nought_table hf (m + 2) (by omega)).ok S many m1 m2
  have e2 := fun S => (s_unit_table hf (m + 2) (by omega)).ok S many m1 m2
  have g1 := fun S => s_law_is_table hf (m + 2) (by omega) S _ _ _ tn (kn.up (by decide))
  have g2 := fun S => s_law_is_table hf (m + 2) (by omega) S _ _ _ tu (ku.up (by decide))
  have er : rngL 0 many = (List.range many).map fun (j : Nat) => Val.int j := by
    unfold rngL
    simp
  refine ⟨[.lst [.int many]], W.eq ?_⟩
  rw [W_run rfl]
  simp! [b_law_units_right, W_rng (show many < 4611686018427387904 by omega), er]
  refine W_lcA (List.range many) (fun (j : Nat) => Val.int j) (fun i => tI ((List.range many).map fun j => if j = i then 1 else 0)) (live_nil _) (by simp; omega) (fun x hx => by simp! [GW.W_ok]) (fun i hi => ?_) ?_
  · simp! [W_rng (show many < 4611686018427387904 by omega), er]
    refine W_lcA (List.range many) (fun (j : Nat) => Val.int j) (fun j => .int (if j = i then 1 else 0)) (live_nil _) (by simp; omega) (fun x hx => by simp! [GW.W_ok]) (fun i2 hi => ?_) ?_
    · simp! [GW.W_ok]
      by_cases h : i2 = i <;> simp [h] <;> omega
    · simp! [List.length_map, List.length_range]
      refine ⟨by omega, ?_⟩
      simp [tI]
  rw [show (List.range many).map (fun i => tI ((List.range many).map fun j => if j = i then 1 else 0)) = (unitT many).map tI by simp [unitT]]
  have hu : Val.tup [.tup ((unitT many).map tI), .int 1] = tabV (unitT many) 1 := rfl
  simp! [e1, e2, z1e, z2e, str_ne, mul_t m2, nought_v, hu, List.length_map, show (unitT many).length = many by simp [unitT]]
  refine ⟨by omega, ?_⟩
  simp! [W_pow29]
  refine WF_for (fun k en T => T = S ++ [.lst [.int many]] ∧ ∃ o2 o3 o4, en = [some (.int many), some (tabV (unitT many) 1), o2, o3, o4]) ⟨rfl, _, _, _, rfl⟩ (fun _ _ _ _ => live_l _ _ _) ?_ ?_
  · rintro k v en T hk ⟨rfl, o2, o3, o4, rfl⟩
    have en0 : (S ++ [Ob.lst [.int many]])[S.length]? = some (.lst [.int many]) := at_new _ _ _
    have hv : Bad (S ++ [.lst [.int many]]) v ∧ isWh 1 12 v = false := by
      have := List.mem_of_getElem? hk
      simp only [List.mem_cons, List.not_mem_nil, or_false] at this
      rcases this with rfl | rfl | rfl | rfl | rfl | rfl | rfl | rfl | rfl | rfl
      · exact ⟨bad_int (k19 (by decide)), rfl⟩
      · exact ⟨bad_int (k19 (by decide)), rfl⟩
      · exact ⟨bad_int (k19 (by decide)), rfl⟩
      · exact ⟨bad_bl _, rfl⟩
      · exact ⟨bad_non, rfl⟩
      · exact ⟨bad_str (by decide) (by decide), rfl⟩
      · exact ⟨bad_one en0 (k19 (by omega)), rfl⟩
      · exact ⟨bad_tup (k19 (by omega)), rfl⟩
      · exact ⟨bad_int (pow_up (k := 100) (by decide) (by decide)), rfl⟩
      · exact ⟨bad_bl _, rfl⟩
    obtain ⟨hb, hw⟩ := hv
    have r1 := refused1 (n := m) (c := 14) (k := 2) (by decide) (.inr rfl) hb.due ((s_nought_table hf m (by omega)).bad _ v hb.ok hw)
    have r2 := refused1 (n := m) (c := 15) (k := 2) (by decide) (.inr rfl) hb.due ((s_unit_table hf m (by omega)).bad _ v hb.ok hw)
    simp only [word] at r1 r2
    refine ⟨_, rfl, ?_⟩
    simp! [r1, r2]
    exact ⟨_, _, _, rfl⟩
  · rintro en T ⟨rfl, o2, o3, o4, rfl⟩
    simp! [e1, e2, g1, g2]
end
end K07
set_option exponentiation.threshold 20000
namespace K07
open PySem GW
theorem repr_ref {S : Store} {r : Nat} {xs : List Val} (e : S[r]? = some (.lst xs)) : bltV .repr [.ref r] S = bltV .repr [.lst xs] S := by
  show reprV (.ref r) S = reprV (.lst xs) S
  unfold reprV
  have : toD S 12 (.ref r) = toD S 12 (.lst xs) := by
    unfold toD
    dsimp only
    rw [e]
  rw [this]
def rowD : Dat (List Int × Int) := pairD (tupD intD) intD
theorem ne_rows (S : Store) (ps : List (List Int × Int)) : cmpE .ne (.lst (ps.map rowP)) (.lst (ps.map rowP)) S = some false := by
  have h := rowD.eqL (show 2 ≤ 10 by decide) S ps ps
  show (eqV S (.lst (ps.map rowD.v)) (.lst (ps.map rowD.v))).map not = _
  rw [h]
  simp
theorem ne_tab (S : Store) (rs : List (List Int)) (b : Int) : cmpE .ne (tabV rs b) (tabV rs b) S = some false := by
  have h := (tupD (tupD intD)).eqP intD (by decide) (by decide) S rs rs b b
  show (eqV S (.tup [(tupD (tupD intD)).v rs, intD.v b]) (.tup [(tupD (tupD intD)).v rs, intD.v b])).map not = _
  rw [h]
  simp
theorem rows_lf {S : Store} {ps : List (List Int × Int)} {w k : Nat} (h : Rows 110 ps w) : AllL (Lf S (k + 3)) (ps.map rowP) := allL_iff.mpr fun v hv => by
  obtain ⟨p, hp, rfl⟩ := List.mem_map.mp hv
  exact lf_row ((h.bd p hp).up (by decide))
theorem rows_cn {w : Nat} (hw : w ≤ 12) : ∀ ps : List (List Int × Int), (∀ p ∈ ps, p.1.length = w) → cnts (ps.map rowP) ≤ 15 * ps.length
  | [], _ => by simp [cnts]
  | p :: ps, h => by
    have a := rows_cn hw ps fun q hq => h q (List.mem_cons_of_mem _ hq)
    have b := h p (List.mem_cons_self ..)
    show cnt (rowV p.1 p.2) + 1 + cnts (ps.map rowP) ≤ _
    rw [cnt_row, List.length_cons]
    omega
section
variable {fu : Nat}
def cTold : Ct := fun f => ∀ (S : Store) (ps : List (List Int × Int)) (w : Nat) (ms : List (List Int)) (c : Int), w ≤ 12 → Rows 110 ps w → shortT (overT ps (botT ps)) (botT ps) = tabV ms c → IsTab ms c w → Bdd 1431 ms.flatten c → ∃ T, f [.lst (ps.map rowP), tabV ms c] S = .ok (.bl true) (S ++ T)
theorem told_right (hf : 2 ^ 9000 ≤ fu) : At Pr fu 9 39 cTold := .mk (d := 8) (df := ⟨2, 6, b_law_told_right⟩) rfl fun n hd S ps w ms c hw q e t k => by
  have l2 := q.hi
  have l1 := q.lo
  have ml : ∀ S, mkL false (ps.map rowP) S = .ok (.lst (ps.map rowP)) S := fun S => mkL_f (sz_le (by rw [List.length_map]; omega))
  have g1 := fun (S : Store) (v : Val) (h : seqI S v = some (ps.map rowP)) => s_table_of hf n (by omega) S v ps w h hw q
  rw [e] at g1
  have g2 := fun S => s_law_is_table hf n (by omega) S ms c w t (k.up (by decide))
  have g3 := fun S => (s_table_rows hf n (by omega)).ok S ms c w t (k.up (by decide))
  rw [rows_back q e] at g3
  have g4 := fun S => s_is_table hf n (by omega) S (tabV ms c) (k.okT (by decide) S)
  simp only [t.is] at g4
  have nr := fun S => ne_rows S ps
  have nt := fun S => ne_tab S ms c
  have cn := rows_cn hw ps q.wd
  have lf : ∀ S, AllL (Lf S 5) (ps.map rowP) := fun S => rows_lf (k := 2) q
  have hp0 : ∃ p0 pt, ps = p0 :: pt := by
    cases ps with
    | nil => exact absurd l1 (by decide)
    | cons a b => exact ⟨a, b, rfl⟩
  obtain ⟨p0, pt, hp0⟩ := hp0
  have i0 : ∀ S, idxV (.lst (ps.map rowP)) (.int 0) S = .ok (rowP p0) S := fun S => seq_idx0 (xs := pt.map rowP) (by rw [hp0]; rfl)
  have isw : ∀ {S : Store}, W (runD (om Pr fu n) ⟨2, 6, b_law_told_right⟩ [.lst (ps.map rowP), tabV ms c] S) (fun v T => v = .bl true ∧ ∃ U, T = S ++ U) nX := by
    intro S
    have lm : (ps.map rowP).length < 1000 := by rw [List.length_map]; omega
    generalize hR : tabV ms c = R at *
    generalize ps.map rowP = L at *
    rw [W_run rfl]
    simp! [b_law_told_right, ml]
    refine WF_for (fun k en T => T = S ∧ ∃ o2 o3 o4 o5, en = [some (.lst L), some R, o2, o3, o4, o5]) ⟨rfl, _, _, _, _, rfl⟩ (fun _ _ _ _ => live_l _ _ _) ?_ ?_
    · rintro k v en T hk ⟨rfl, o2, o3, o4, o5, rfl⟩
      have hv : callN Pr fu n 12 [v] T = .ok R T ∧ bltV .list [v] T = .ok (.lst L) T := by
        have := List.mem_of_getElem? hk
        simp only [List.mem_cons, List.not_mem_nil, or_false] at this
        rcases this with rfl | rfl
        · exact ⟨g1 T _ rfl, ml T⟩
        · exact ⟨g1 T _ rfl, ml T⟩
      obtain ⟨v1, v2⟩ := hv
      refine ⟨_, rfl, ?_⟩
      simp! [v1, v2, g2, nt, nr]
      exact ⟨_, _, _, _, rfl⟩
    · rintro en T ⟨rfl, o2, o3, o4, o5, rfl⟩
      simp! [show (2 : Int) = ((2 : Nat) : Int) from rfl, W_rng (show 2 < 4611686018427387904 by decide)]
      refine WF_for (fun k en T' => (∃ U, T' = T ++ U) ∧ ∃ o2 o3 o4 o5, en = [some (.lst L), some R, o2, o3, o4, o5]) ⟨⟨[], by simp⟩, _, _, _, _, rfl⟩ (fun _ _ _ _ => live_nil _) ?_ ?_
      · rintro k v en T' hk ⟨⟨U, rfl⟩, o2, o3, o4, o5, rfl⟩
        have eN : (T ++ U ++ [Ob.lst L])[(T ++ U).length]? = some (.lst L) := at_new _ _ _
        have hz := repr_lf (S := T ++ U ++ [Ob.lst L]) (k := 6) (v := .lst L) (lf _) (by decide) (by show cnts _ ≤ _; omega)
        have ez := hz.choose_spec
        generalize hz.choose = z at ez
        have r2 := (repr_ref eN).trans ez
        have wr : (T ++ U ++ [Ob.lst L]).set (T ++ U).length (.lst (L ++ [rowP p0])) = T ++ (U ++ [.lst (L ++ [rowP p0])]) := by simp
        have ma := mth_append eN lm (rowP p0)
        rw [wr] at ma
        have ty := tyOk_ref eN .append rfl
        have is := isi_ref eN
        refine ⟨_, rfl, ?_⟩
        simp! [g3, is, ez, r2, str_ne, ty, i0, ma]
        exact ⟨⟨_, rfl⟩, _, _, _, _, rfl⟩
      · rintro en T' ⟨⟨U, rfl⟩, o2, o3, o4, o5, rfl⟩
        simp! [g4]
        exact ⟨rfl, _, rfl⟩
  obtain ⟨v, T, e, rfl, U, rfl⟩ := (isw (S := S)).get
  exact ⟨U, e⟩
end
end K07
set_option exponentiation.threshold 20000
namespace K07
open PySem GW
def times13 (zs : List Val) : List Val := (List.replicate 13 zs).flatten
def thirteen (zs : List Val) : List Val := (times13 zs).take 13
theorem new_ok {S : Store} {zs : List Val} (h : zs.length ≤ 1000) : newR zs S = .ok (.ref S.length) (S ++ [.lst zs]) := if_pos (Nat.le_trans h (by decide))
theorem slcR_13 {S : Store} {zs : List Val} : slcRV (.lst (times13 zs)) none (some 13) S = .ok (.ref S.length) (S ++ [.lst (thirteen zs)]) := by
  show newR (cutL _ none (some ((13 : Nat) : Int))) S = _
  rw [cut_to]
  exact new_ok (Nat.le_trans (List.length_take_le _ _) (by decide))
theorem slc_13 {S : Store} {zs : List Val} : slcV (.lst (times13 zs)) none (some 13) S = .ok (.lst (thirteen zs)) S := by
  show Res.ok (Val.lst (cutL _ none (some ((13 : Nat) : Int)))) S = _
  rw [cut_to]; rfl
theorem addR_l {S : Store} {a b : List Val} (h : a.length + b.length ≤ 1000) : bopV .addR (.lst a) (.lst b) S = .ok (.ref S.length) (S ++ [.lst (a ++ b)]) := by
  show newR (a ++ b) S = _
  exact new_ok (by rw [List.length_append]; exact h)
theorem mulR_t {S : Store} {x : Val} {k : Nat} (h : k ≤ 12) : bopV .mulR (.tup [x]) (.int k) S = .ok (.tup (List.replicate k x)) S := by
  show mulV (.tup [x]) (.int k) S = _
  have := W_mulT (x := x) (n := (k : Int)) (S := S) (Q := fun v T => v = .tup (List.replicate k x) ∧ T = S) (X := nX) (by omega) (by omega)
  rw [Int.toNat_natCast] at this
  obtain ⟨v, T, e, rfl, rfl⟩ := W.get (this.mpr ⟨rfl, rfl⟩)
  exact e
/-- what no row is told of, and due -/
structure Thing (S : Store) (v : Val) : Prop where
  ok : Okv S v
  due : Due S v
  sq : ∀ xs, seqI S v = some xs → Okvs S xs ∧ goodT xs = false
theorem thing_flat {S : Store} {v : Val} (h : Bad S v) (hs : seqI S v = none) : Thing S v := ⟨h.ok, h.due, fun xs e => by rw [hs] at e; cases e⟩
theorem thing_tup {S : Store} {xs : List Val} (h : AllL (Lf S 8) xs) (hc : cnts xs ≤ 600) (hg : goodT xs = false) : Thing S (.tup xs) :=
  ⟨Lf.okv (k := 9) h, ⟨sh_up (k := 9) (v := .tup xs) h (show cnts xs ≤ 7000 by omega) (by decide), .inl rfl⟩, fun ys e => by cases e; exact ⟨okvs_of (fun v q => q.okv) _ h, hg⟩⟩
theorem thing_new {V : Store} {zs : List Val} (U : Store) (h : AllL (Lf V 8) zs) (hc : cnts zs ≤ 600) (hl : zs.length < 900) (hg : goodT zs = false) : Thing (V ++ .lst zs :: U) (.ref V.length) := by
  have up : ∀ (o : Ob), AllL (Lf (V ++ o :: U) 8) zs := fun o => AllL.mono (fun v q => q.app _) h
  have e : (V ++ Ob.lst zs :: U)[V.length]? = some (.lst zs) := at_new _ _ _
  refine ⟨⟨_, e⟩, ⟨?_, .inr ⟨_, zs, rfl, e, hl, ?_⟩⟩, fun ys e' => ?_⟩
  · have h1 : AllL (Lf (V ++ Ob.lst zs :: U) 10) zs := AllL.mono (fun v q => Lf.le (m := 10) q (by decide)) (up _)
    have h2 : Shs (V ++ Ob.lst zs :: U) 10 (cnts zs) zs := shs_cnt (fun v q => Lf.sh q) zs h1
    exact (sh_ref (k := 10) e h2).le (by omega)
  · have es : (V ++ Ob.lst zs :: U).set V.length (.lst (zs ++ [more])) = V ++ Ob.lst (zs ++ [more]) :: U := by simp
    rw [es]
    have h1 : AllL (Lf (V ++ Ob.lst (zs ++ [more]) :: U) 10) zs := AllL.mono (fun v q => Lf.le (m := 10) q (by decide)) (up _)
    have h3 : Lf (V ++ Ob.lst (zs ++ [more]) :: U) 10 more := ⟨by decide, by decide⟩
    have h2 : Shs (V ++ Ob.lst (zs ++ [more]) :: U) 10 (cnts (zs ++ [more])) (zs ++ [more]) := shs_cnt (fun v q => Lf.sh q) _ (allL_app h1 ⟨h3, trivial⟩)
    refine (sh_ref (k := 10) (at_new _ _ _) h2).le ?_
    rw [cnts_app]
    simp only [more, cnts, cnt]
    omega
  · simp only [seqI] at e'
    rw [e] at e'
    cases e'
    exact ⟨okvs_of (fun v q => q.okv) _ (up _), hg⟩
theorem thing_dict {S : Store} {m : Nat} (e : S[m]? = some (.dct [] [])) : Thing S (.ref m) := by
  refine ⟨⟨_, e⟩, ⟨(sh_dct (k := 10) e).le (by decide), .inl ?_⟩, fun ys h => ?_⟩
  · unfold isiE tyN
    dsimp only
    rw [e]
    rfl
  · simp only [seqI] at h
    rw [e] at h
    cases h
theorem thirteen_len {zs : List Val} (h : 1 ≤ zs.length) : (thirteen zs).length = 13 := by
  unfold thirteen times13
  rw [List.length_take, List.length_flatten]
  simp
  omega
theorem thirteen_mem {zs : List Val} {v : Val} (h : v ∈ thirteen zs) : v ∈ zs := by
  unfold thirteen times13 at h
  obtain ⟨l, h1, h2⟩ := List.mem_flatten.mp (List.mem_of_mem_take h)
  rw [(List.mem_replicate.mp h1).2] at h2
  exact h2
theorem cnts_le {c : Nat} : ∀ {xs : List Val}, (∀ x ∈ xs, cnt x ≤ c) → cnts xs ≤ xs.length * (c + 1)
  | [], _ => by simp [cnts]
  | x :: xs, h => by
    have := h x (List.mem_cons_self ..)
    have := cnts_le (xs := xs) fun y hy => h y (List.mem_cons_of_mem _ hy)
    simp only [cnts, List.length_cons, Nat.add_mul]
    omega
theorem slc_lto {S : Store} {k : Nat} {zs : List Val} : slcV (.lst zs) none (some (k : Int)) S = .ok (.lst (zs.take k)) S := by
  show Res.ok (Val.lst (cutL zs none (some (k : Int)))) S = _
  rw [cut_to]
theorem slc_lfrom {S : Store} {k : Nat} {zs : List Val} : slcV (.lst zs) (some ((k : Int) + 1)) none S = .ok (.lst (zs.drop (k + 1))) S := by
  show Res.ok (Val.lst (cutL zs (some ((k : Int) + 1)) none)) S = _
  rw [show ((k : Int) + 1) = ((k + 1 : Nat) : Int) by omega, cut_from]
theorem slc_lfrom0 {S : Store} {k : Nat} {zs : List Val} : slcV (.lst zs) (some (k : Int)) none S = .ok (.lst (zs.drop k)) S := by
  show Res.ok (Val.lst (cutL zs (some (k : Int)) none)) S = _
  rw [cut_from]
theorem mul_lst {S : Store} {zs : List Val} (h : zs.length ≤ 12) : bopV .mul (.lst zs) (.int 13) S = .ok (.lst (times13 zs)) S :=
  if_pos ⟨by decide, by decide, Nat.le_trans (Nat.mul_le_mul_right _ h) (by decide)⟩
theorem good_odd {xs : List Val} {v : Val} (h : v ∈ xs) (hv : isRow v = false) : goodT xs = false := by
  unfold goodT goodL
  have : xs.all isRow = false := by
    refine Bool.eq_false_iff.mpr fun h' => ?_
    have := List.all_eq_true.mp h' v h
    rw [hv] at this
    cases this
  rw [this, Bool.and_false, Bool.false_and]
theorem good_len {xs : List Val} (h : 12 < xs.length) : goodT xs = false := by
  unfold goodT goodL
  rw [show decide (xs.length ≤ 12) = false from decide_eq_false (by omega), Bool.and_false, Bool.false_and, Bool.false_and]
/-- two rows of unlike widths -/
theorem good_wide {xs : List Val} {x y : Val} (h1 : x ∈ xs) (h2 : y ∈ xs) (h : widthOf x ≠ widthOf y) : goodT xs = false := by
  unfold goodT
  have : (xs.all fun x => decide ((widthOf x : Int) = (widthOf (xs.headD .non) : Int))) = false := by
    refine Bool.eq_false_iff.mpr fun h' => ?_
    have a := of_decide_eq_true (List.all_eq_true.mp h' x h1)
    have b := of_decide_eq_true (List.all_eq_true.mp h' y h2)
    omega
  rw [this, Bool.and_false]
theorem width_row (ns : List Int) (b : Int) : widthOf (rowV ns b) = ns.length := by
  show (ns.map Val.int).length = _
  simp
end K07
set_option exponentiation.threshold 20000
namespace K07
open PySem GW
theorem W_most {d : Nat} {S : Store} {Q : Val → Store → Prop} {X : Xt} (h : ∀ mst : Nat, mst = 6 ∨ mst = 12 → Q (.int mst) S) : W (idxV (.lst [.int 6, .int 12]) (.int (if decide ((d : Int) = 5) = true then 1 else 0)) S) Q X := by
  by_cases e : (d : Int) = 5
  · rw [if_pos (by simpa using e)]
    exact W.of (show idxV (.lst [.int 6, .int 12]) (.int 1) S = .ok (.int (12 : Nat)) S from rfl) (h 12 (.inr rfl))
  · rw [if_neg (by simpa using e)]
    exact W.of (show idxV (.lst [.int 6, .int 12]) (.int 0) S = .ok (.int (6 : Nat)) S from rfl) (h 6 (.inl rfl))
theorem one_n (u : Nat) : (1 : Int) + (u : Int) = ((1 + u : Nat) : Int) := by omega
def Fr (ns : List Int) (en : Enm) : Prop := ∃ a1 a2 a3 a4 a5 a6 a7 a8 a9 a10 a11 a12 a13 a14 a15 a16, en = [some (.scr (ns.map Val.int)), a1, a2, a3, a4, a5, a6, a7, a8, a9, a10, a11, a12, a13, a14, a15, a16]
theorem plain0 (xs : List Int) {fu : Nat} (hf : 2 ^ 9000 ≤ fu) : W (callN Pr fu 12 40 [.scr (xs.map Val.int)] []) (fun v _ => v = .bl true) nX := by
  rw [call_eq (d := ⟨1, 17, b_law⟩) rfl, W_run rfl]
  obtain ⟨m, hm, hm2⟩ := turns_nat 8 xs.length (by decide)
  change max 2 (min (8 : Int) _) = _ at hm
  simp! [b_law, List.length_map, hm, W_rng hm2]
  refine WF_for (fun k en T => Fr xs en) ⟨_, _, _, _, _, _, _, _, _, _, _, _, _, _, _, _, rfl⟩ (fun _ _ _ _ => live_nil _) ?_ ?_
  · rintro j v en T hj ⟨a1, a2, a3, a4, a5, a6, a7, a8, a9, a10, a11, a12, a13, a14, a15, a16, rfl⟩
    obtain ⟨rfl, _⟩ := rngL_at hj
    refine ⟨_, rfl, ?_⟩
    obtain ⟨c, ec⟩ := s_law_cell hf 11 (by decide) T xs j
    simp_all! [ec]
    refine s_law_purse hf 11 (by decide) T c _ _ fun l T1 p1 _ => ?_
    simp_all! [GW.W_ok]
    refine s_law_take hf 11 (by decide) T1 l 23 _ _ p1 (by decide) (by decide) fun way T2 hway D2 => ?_
    simp_all! [GW.W_ok]
    refine s_law_take hf 11 (by decide) T2 l 12 _ _ D2.pu (by decide) (by decide) fun t T3 ht D3 => ?_
    simp_all! [GW.W_ok]
    refine s_law_take hf 11 (by decide) T3 l 8 _ _ D3.pu (by decide) (by decide) fun d T5 hd D5 => ?_
    simp_all! [GW.W_ok]
    refine W_most fun mst hmst => ?_
    refine s_law_take hf 11 (by decide) T5 l mst _ _ D5.pu (by omega) (by omega) fun u T6 hu D6 => ?_
    simp_all! [one_n]
    refine s_law_take hf 11 (by decide) T6 l mst _ _ D6.pu (by omega) (by omega) fun v T7 hv D7 => ?_
    have m1 : 1 ≤ 1 + u := by omega
    have m2 : 1 + u ≤ 12 := by omega
    have w1 : 1 ≤ 1 + v := by omega
    have w2 : 1 + v ≤ 12 := by omega
    simp_all! [one_n, W_rng (show 1 + u < 4611686018427387904 by omega)]
    generalize 1 + u = many at *
    generalize 1 + v = wide at *
    refine W_lcI _ (fun k acc T => ∃ ps : List (List Int × Int), acc = ps.map rowP ∧ ps.length = k ∧ (∀ p ∈ ps, IsRow p.1 p.2 ∧ p.1.length = wide ∧ Bdd 110 p.1 p.2) ∧ Dr l T7 T) (by rw [rngL_len]; omega) ⟨[], rfl, rfl, by simp, .refl D7.pu⟩ (fun _ _ _ _ => live_nil _) ?_ ?_
    · rintro k v acc T' hk ⟨ps, rfl, hl, hps, D⟩
      obtain ⟨rfl, _⟩ := rngL_at hk
      simp_all! [GW.W_ok]
      refine ⟨fun _ => ?_, fun h => by cases h⟩
      refine s_law_row hf 11 (by decide) T' l wide _ _ D.pu w1 w2 fun ns b T8 r g kb D8 => ?_
      refine ⟨ps ++ [(ns, b)], by simp [rowP], by simp [hl], fun p hp => ?_, D.trans D8⟩
      rcases List.mem_append.mp hp with hp | hp
      · exact hps p hp
      · rw [List.mem_singleton.mp hp]
        exact ⟨r, g, kb⟩
    · rintro acc T8 ⟨ps, rfl, hl, hps, D8⟩ _
      rw [rngL_len] at hl
      have q : Rows 110 ps wide := ⟨by omega, by omega, fun p hp => (hps p hp).1, fun p hp => (hps p hp).2.1, fun p hp => (hps p hp).2.2⟩
      have a0 := q.all.1
      have hsh := shortT_is (rs := overT ps (botT ps)) (b := botT ps) (by simp [overT]; omega) (by simp [overT]; omega) w1 w2 (overT_wd q) a0 (overT_bd q)
      have h2 := hsh.choose_spec.choose_spec
      generalize hsh.choose_spec.choose = c8 at h2
      generalize hsh.choose = r8 at h2
      have t8 := h2.2.1
      have k8 := h2.2.2.1
      have ed := s_law_due hf 11 (by decide) T8 (.lst (ps.map rowP)) ps wide rfl w2 q
      rw [h2.1] at ed
      have hto := told_right hf 11 (by decide) T8 ps wide r8 c8 w2 q h2.1 t8 (k8.up (by decide))
      have eto := hto.choose_spec
      generalize hto.choose = U1 at eto
      have hun := units_right hf 11 (by decide) (T8 ++ U1) (1 + t) (by omega) (by omega)
      have eun := hun.choose_spec
      generalize hun.choose = U2 at eun
      have pZ := (D8.pu.app U1).app U2
      simp_all! [List.length_map, ed]
      refine ⟨by omega, ?_⟩
      refine WF_cut (fun en T => T = T8 ++ U1 ++ U2 ∧ en = [some (.scr (xs.map Val.int)), some (.int j), some (.ref l), some (.int way), some (.int t), some (.int mst), some (.int many), some (.int wide), some (.lst (ps.map rowP)), some (tabV r8 c8), a10, a11, a12, a13, a14, a15, a16]) ?_ ?_
      · simp! [eto, one_n, eun]
      rintro en Z ⟨rfl, rfl⟩
      generalize T8 ++ U1 ++ U2 = Z at *
      simp_all! [GW.W_ok]
      refine s_law_no_table hf 11 (by decide) Z l r8 c8 wide way _ _ pZ t8 (k8.up (by decide)) (by omega) fun bad V1 E1 ob rb lb => ?_
      refine WF_cut (fun en T => T = V1 ∧ en = [some (.scr (xs.map Val.int)), some (.int j), some (.ref l), some (.int way), some (.int t), some (.int mst), some (.int many), some (.int wide), some (.lst (ps.map rowP)), some (tabV r8 c8), some bad, a11, a12, a13, a14, a15, a16]) ?_ ?_
      · have g1 := s_is_table hf 11 (by decide) V1 bad ob.ok
        rw [rb] at g1
        have g2 := refused1 (n := 9) (c := 13) (k := 1) (by decide) (.inl rfl) (ob.due lb) ((s_table_rows hf 9 (by decide)).bad V1 bad ob.ok rb)
        simp only [word] at g2
        have no_nf : ∀ S, cmpE .isn (.bl false) (.bl false) S = some false := fun S => rfl
        simp! [g1, g2, no_nf]
      rintro en Y ⟨rfl, rfl⟩
      have hfd : (t : Int).fmod many = ((t % many : Nat) : Int) := Int.fmod_eq_emod_of_nonneg _ (by omega)
      have hix : t % many < ps.length := by rw [hl]; exact Nat.mod_lt _ (by omega)
      have hget : (ps.map rowP)[t % many]? = some (rowP ps[t % many]) := by rw [List.getElem?_map, List.getElem?_eq_getElem hix]; rfl
      have hpm : ps[t % many] ∈ ps := List.getElem_mem hix
      have mn0 : (many : Int) ≠ 0 := by omega
      simp_all! [hfd, mn0, ne_eq, not_false_eq_true, true_and, W_idxLN hget]
      refine s_law_take hf 11 (by decide) Y l 21 _ _ E1.pu (by decide) (by decide) fun wy V2 hwy E2 => ?_
      refine s_law_no_row hf 11 (by decide) V2 l _ _ wy _ _ E2.pu (q.rt _ hpm) ((q.bd _ hpm).up (by decide)) (by omega) fun odd V3 E3 oo ro lo => ?_
      have hfd2 : (wide : Int).fmod 12 = ((wide % 12 : Nat) : Int) := Int.fmod_eq_emod_of_nonneg _ (by decide)
      have h12 : wide % 12 < 12 := Nat.mod_lt _ (by decide)
      simp_all! [hfd2, one_n, show (12 : Int) ≠ 0 by decide, ne_eq, not_false_eq_true, true_and]
      refine s_law_row hf 11 (by decide) V3 l (1 + wide % 12) _ _ E3.pu (by omega) (by omega) fun n9 b9 V4 r9 g9 k9' E4 => ?_
      have lq : (ps.map rowP).length ≤ 12 := by rw [List.length_map]; omega
      have hw9 : wide ≠ 1 + wide % 12 := by omega
      generalize hLL : ps.map rowP = L at *
      have l1 : (L.take t).length ≤ 12 := Nat.le_trans (List.length_take_le' _ _) lq
      have l2 : (L.drop (t + 1)).length ≤ 12 := by rw [List.length_drop]; omega
      have l3 : (L.drop t).length ≤ 12 := by rw [List.length_drop]; omega
      generalize hL0 : L.take t ++ [odd] ++ L.drop (t + 1) = L0
      generalize hL1 : L.take t ++ [rowV n9 b9] ++ L.drop t = L1
      generalize hL2 : [rowV n9 b9] ++ L = L2
      have x0 := fun S => addR_l (S := S) (a := L.take t ++ [odd]) (b := L.drop (t + 1)) (by rw [List.length_append, List.length_singleton]; omega)
      have x1 := fun S => addR_l (S := S) (a := L.take t ++ [rowV n9 b9]) (b := L.drop t) (by rw [List.length_append, List.length_singleton]; omega)
      have x2 := fun S => addR_l (S := S) (a := [rowV n9 b9]) (b := L) (by rw [List.length_singleton]; omega)
      simp only [hL0] at x0
      simp only [hL1] at x1
      simp only [hL2] at x2
      simp_all! [slc_lto, slc_lfrom, x0, mul_lst lq, slcR_13, slc_13]
      refine ⟨by omega, ?_⟩
      have ne9 : ∀ S, cmpE .ne (.int (wide : Int)) (.int ((1 + wide % 12 : Nat) : Int)) S = some true := fun S => by
        rw [cmp_ne]
        have : ¬ ((wide : Int) = ((1 + wide % 12 : Nat) : Int)) := by omega
        rw [decide_eq_false this]
        rfl
      simp! [hfd2, one_n, ne9, show (12 : Int) ≠ 0 by decide, ne_eq, not_false_eq_true, true_and, slc_lto, slc_lfrom0, x1, x2]
      refine ⟨by omega, ?_⟩
      have tup_seq : ∀ (S : Store) (x : Val) (ys : List Val), seqI S x = some ys → bltV .tuple [x] S = .ok (.tup ys) S := fun S x ys h => by
        cases x with
        | tup zs => cases h; rfl
        | lst zs => cases h; rfl
        | ref r =>
          simp only [seqI] at h
          show tupleV (.ref r) S = _
          unfold tupleV
          dsimp only
          split at h
          · rename_i zs e
            cases h
            first | rfl | rw [e]
          · cases h
        | _ => cases h
      have z0 : (V4 ++ [Ob.lst L0] ++ [Ob.lst []] ++ [Ob.lst (thirteen L)] ++ [Ob.lst L1] ++ [Ob.lst L2])[V4.length]? = some (.lst L0) := at_app (at_app (at_app (at_app (at_new _ _ _) _) _) _) _
      have z1 : (V4 ++ [Ob.lst L0] ++ [Ob.lst []] ++ [Ob.lst (thirteen L)] ++ [Ob.lst L1] ++ [Ob.lst L2])[(V4 ++ [Ob.lst L0]).length]? = some (.lst []) := at_app (at_app (at_app (at_new _ _ _) _) _) _
      have z2 : (V4 ++ [Ob.lst L0] ++ [Ob.lst []] ++ [Ob.lst (thirteen L)] ++ [Ob.lst L1] ++ [Ob.lst L2])[(V4 ++ [Ob.lst L0] ++ [Ob.lst []]).length]? = some (.lst (thirteen L)) := at_app (at_app (at_new _ _ _) _) _
      have z3 : (V4 ++ [Ob.lst L0] ++ [Ob.lst []] ++ [Ob.lst (thirteen L)] ++ [Ob.lst L1] ++ [Ob.lst L2])[(V4 ++ [Ob.lst L0] ++ [Ob.lst []] ++ [Ob.lst (thirteen L)]).length]? = some (.lst L1) := at_app (at_new _ _ _) _
      have z4 : (V4 ++ [Ob.lst L0] ++ [Ob.lst []] ++ [Ob.lst (thirteen L)] ++ [Ob.lst L1] ++ [Ob.lst L2])[(V4 ++ [Ob.lst L0] ++ [Ob.lst []] ++ [Ob.lst (thirteen L)] ++ [Ob.lst L1]).length]? = some (.lst L2) := at_new _ _ _
      have oo4 := oo.dr E3.pu E4
      have zl : AllL (Lf V4 8) L := by rw [← hLL]; exact rows_lf (k := 5) q
      have zm := allL_iff.mp zl
      have z9 : Lf V4 8 (rowV n9 b9) := lf_row (k := 5) (k9'.up (by decide))
      have c9 : cnt (rowV n9 b9) ≤ 14 := by rw [cnt_row]; have := r9.hi; omega
      have c14 : ∀ v ∈ L, cnt v ≤ 14 := fun v hv => by
        rw [← hLL] at hv
        obtain ⟨p, hp, rfl⟩ := List.mem_map.mp hv
        show cnt (rowV p.1 p.2) ≤ 14
        rw [cnt_row, q.wd p hp]; omega
      have wid : ∀ v ∈ L, widthOf v = wide := fun v hv => by
        rw [← hLL] at hv
        obtain ⟨p, hp, rfl⟩ := List.mem_map.mp hv
        show widthOf (rowV p.1 p.2) = wide
        rw [width_row]; exact q.wd p hp
      have lq1 : 1 ≤ L.length := by rw [← hLL, List.length_map]; omega
      have zt : ∀ k, AllL (Lf V4 8) (L.take k) := fun k => allL_iff.mpr fun v hv => zm v (List.mem_of_mem_take hv)
      have zd : ∀ k, AllL (Lf V4 8) (L.drop k) := fun k => allL_iff.mpr fun v hv => zm v (List.mem_of_mem_drop hv)
      have ctd : ∀ k k', k ≤ k' → cnts (L.take k) + cnts (L.drop k') ≤ 180 := fun k k' hk => by
        have a := cnts_le (c := 14) (xs := L.take k) fun v hv => c14 v (List.mem_of_mem_take hv)
        have b := cnts_le (c := 14) (xs := L.drop k') fun v hv => c14 v (List.mem_of_mem_drop hv)
        have : (L.take k).length + (L.drop k').length ≤ 12 := by rw [List.length_take, List.length_drop]; omega
        have := Nat.mul_le_mul_right 15 this
        omega
      have y0 : AllL (Lf V4 8) L0 ∧ cnts L0 ≤ 600 ∧ L0.length < 900 ∧ goodT L0 = false := by
        rw [← hL0]
        refine ⟨allL_app (allL_app (zt _) ⟨oo4.lf.le (by decide), trivial⟩) (zd _), ?_, ?_, good_odd (v := odd) (by simp) ro⟩
        · have := ctd t (t + 1) (by omega)
          have := oo4.cn
          simp only [cnts_app, cnts]
          omega
        · simp only [List.length_append, List.length_singleton]; omega
      have y1 : AllL (Lf V4 8) L1 ∧ cnts L1 ≤ 600 ∧ L1.length < 900 := by
        rw [← hL1]
        refine ⟨allL_app (allL_app (zt _) ⟨z9, trivial⟩) (zd _), ?_, ?_⟩
        · have := ctd t t (by omega)
          simp only [cnts_app, cnts]
          omega
        · simp only [List.length_append, List.length_singleton]; omega
      have y2 : AllL (Lf V4 8) L2 ∧ cnts L2 ≤ 600 ∧ L2.length < 900 := by
        rw [← hL2]
        refine ⟨allL_app ⟨z9, trivial⟩ zl, ?_, ?_⟩
        · have := cnts_le (c := 14) (xs := L) c14
          simp only [cnts_app, cnts]
          omega
        · simp only [List.length_append, List.length_singleton]; omega
      have y3 : AllL (Lf V4 8) (thirteen L) ∧ cnts (thirteen L) ≤ 600 ∧ (thirteen L).length = 13 := by
        have t13 := thirteen_len lq1
        refine ⟨allL_iff.mpr fun v hv => zm v (thirteen_mem hv), ?_, t13⟩
        have := cnts_le (c := 14) (xs := thirteen L) fun v hv => c14 v (thirteen_mem hv)
        omega
      have hx : ∃ x, x ∈ L := ⟨L[0]'(by omega), List.getElem_mem _⟩
      have xm := hx.choose_spec
      generalize hx.choose = x9 at xm
      have wx := wid x9 xm
      have w9 : widthOf (rowV n9 b9) ≠ widthOf x9 := by rw [width_row, wx, g9]; omega
      have go1 : goodT L1 = false := by
        rw [← hL1]
        refine good_wide (x := rowV n9 b9) (y := x9) (by simp) ?_ w9
        rw [← List.take_append_drop t L] at xm
        rcases List.mem_append.mp xm with h | h
        · exact List.mem_append.mpr (.inl (List.mem_append.mpr (.inl h)))
        · exact List.mem_append.mpr (.inr h)
      have go2 : goodT L2 = false := by
        rw [← hL2]
        exact good_wide (x := rowV n9 b9) (y := x9) (by simp) (List.mem_append.mpr (.inr xm)) w9
      have go3 : goodT (thirteen L) = false := good_len (by omega)
      have ap : ∀ zs : List Val, AllL (Lf V4 8) zs → AllL (Lf (V4 ++ [Ob.lst L0] ++ [Ob.lst []] ++ [Ob.lst (thirteen L)] ++ [Ob.lst L1] ++ [Ob.lst L2] ++ [Ob.dct [] []]) 8) zs := fun zs h => AllL.mono (fun v q => (Lf.app (Lf.app (Lf.app (Lf.app (Lf.app (Lf.app q _) _) _) _) _) _)) h
      have k0 : Thing (V4 ++ [Ob.lst L0] ++ [Ob.lst []] ++ [Ob.lst (thirteen L)] ++ [Ob.lst L1] ++ [Ob.lst L2] ++ [Ob.dct [] []]) (.ref V4.length) := by
        simp only [List.append_assoc, List.singleton_append]
        exact thing_new _ y0.1 y0.2.1 y0.2.2.1 y0.2.2.2
      have k1 : Thing (V4 ++ [Ob.lst L0] ++ [Ob.lst []] ++ [Ob.lst (thirteen L)] ++ [Ob.lst L1] ++ [Ob.lst L2] ++ [Ob.dct [] []]) (.ref (V4 ++ [Ob.lst L0]).length) := by
        rw [show V4 ++ [Ob.lst L0] ++ [Ob.lst []] ++ [Ob.lst (thirteen L)] ++ [Ob.lst L1] ++ [Ob.lst L2] ++ [Ob.dct [] []] = (V4 ++ [Ob.lst L0]) ++ Ob.lst [] :: [Ob.lst (thirteen L), Ob.lst L1, Ob.lst L2, Ob.dct [] []] by simp]
        exact thing_new _ trivial (by decide) (by decide) rfl
      have k2 : Thing (V4 ++ [Ob.lst L0] ++ [Ob.lst []] ++ [Ob.lst (thirteen L)] ++ [Ob.lst L1] ++ [Ob.lst L2] ++ [Ob.dct [] []]) (.ref (V4 ++ [Ob.lst L0] ++ [Ob.lst []]).length) := by
        rw [show V4 ++ [Ob.lst L0] ++ [Ob.lst []] ++ [Ob.lst (thirteen L)] ++ [Ob.lst L1] ++ [Ob.lst L2] ++ [Ob.dct [] []] = (V4 ++ [Ob.lst L0] ++ [Ob.lst []]) ++ Ob.lst (thirteen L) :: [Ob.lst L1, Ob.lst L2, Ob.dct [] []] by simp]
        exact thing_new _ (AllL.mono (fun v q => Lf.app (Lf.app q _) _) y3.1) y3.2.1 (by omega) go3
      have k3 : Thing (V4 ++ [Ob.lst L0] ++ [Ob.lst []] ++ [Ob.lst (thirteen L)] ++ [Ob.lst L1] ++ [Ob.lst L2] ++ [Ob.dct [] []]) (.ref (V4 ++ [Ob.lst L0] ++ [Ob.lst []] ++ [Ob.lst (thirteen L)]).length) := by
        rw [show V4 ++ [Ob.lst L0] ++ [Ob.lst []] ++ [Ob.lst (thirteen L)] ++ [Ob.lst L1] ++ [Ob.lst L2] ++ [Ob.dct [] []] = (V4 ++ [Ob.lst L0] ++ [Ob.lst []] ++ [Ob.lst (thirteen L)]) ++ Ob.lst L1 :: [Ob.lst L2, Ob.dct [] []] by simp]
        exact thing_new _ (AllL.mono (fun v q => Lf.app (Lf.app (Lf.app q _) _) _) y1.1) y1.2.1 y1.2.2 go1
      have k4 : Thing (V4 ++ [Ob.lst L0] ++ [Ob.lst []] ++ [Ob.lst (thirteen L)] ++ [Ob.lst L1] ++ [Ob.lst L2] ++ [Ob.dct [] []]) (.ref (V4 ++ [Ob.lst L0] ++ [Ob.lst []] ++ [Ob.lst (thirteen L)] ++ [Ob.lst L1]).length) := by
        rw [show V4 ++ [Ob.lst L0] ++ [Ob.lst []] ++ [Ob.lst (thirteen L)] ++ [Ob.lst L1] ++ [Ob.lst L2] ++ [Ob.dct [] []] = (V4 ++ [Ob.lst L0] ++ [Ob.lst []] ++ [Ob.lst (thirteen L)] ++ [Ob.lst L1]) ++ Ob.lst L2 :: [Ob.dct [] []] by simp]
        exact thing_new _ (AllL.mono (fun v q => Lf.app (Lf.app (Lf.app (Lf.app q _) _) _) _) y2.1) y2.2.1 y2.2.2 go2
      have k5 := thing_tup (ap _ y0.1) y0.2.1 y0.2.2.2
      have k6 : Thing (V4 ++ [Ob.lst L0] ++ [Ob.lst []] ++ [Ob.lst (thirteen L)] ++ [Ob.lst L1] ++ [Ob.lst L2] ++ [Ob.dct [] []]) (.tup []) := thing_tup trivial (by decide) rfl
      have k7 := thing_tup (ap _ y3.1) y3.2.1 go3
      have k8' := thing_tup (ap _ y1.1) y1.2.1 go1
      have k10 := thing_tup (ap _ y2.1) y2.2.1 go2
      have kd : Thing (V4 ++ [Ob.lst L0] ++ [Ob.lst []] ++ [Ob.lst (thirteen L)] ++ [Ob.lst L1] ++ [Ob.lst L2] ++ [Ob.dct [] []]) (.ref (V4 ++ [Ob.lst L0] ++ [Ob.lst []] ++ [Ob.lst (thirteen L)] ++ [Ob.lst L1] ++ [Ob.lst L2]).length) := thing_dict (at_new _ _ _)
      have sq : ∀ (r : Nat) (zs : List Val), (V4 ++ [Ob.lst L0] ++ [Ob.lst []] ++ [Ob.lst (thirteen L)] ++ [Ob.lst L1] ++ [Ob.lst L2])[r]? = some (.lst zs) → seqI (V4 ++ [Ob.lst L0] ++ [Ob.lst []] ++ [Ob.lst (thirteen L)] ++ [Ob.lst L1] ++ [Ob.lst L2]) (.ref r) = some zs := fun r zs h => by
        simp only [seqI]
        rw [h]
      have s0 := sq _ _ z0
      have s1 := sq _ _ z1
      have s2 := sq _ _ z2
      have s3 := sq _ _ z3
      have s4 := sq _ _ z4
      generalize hZ : V4 ++ [Ob.lst L0] ++ [Ob.lst []] ++ [Ob.lst (thirteen L)] ++ [Ob.lst L1] ++ [Ob.lst L2] = Z at *
      refine W_lcV _ (fun x => .tup ((seqI Z x).getD [])) (live_l _ _ _) (by simp) (fun x hx => by simp! [GW.W_ok]) (fun x hx => ?_) ?_
      · have hs : ∃ ys, seqI Z x = some ys := by
          simp only [List.mem_cons, List.not_mem_nil, or_false] at hx
          rcases hx with rfl | rfl | rfl | rfl | rfl | rfl
          · exact ⟨_, s0⟩
          · exact ⟨_, s1⟩
          · exact ⟨_, s2⟩
          · exact ⟨_, rfl⟩
          · exact ⟨_, s3⟩
          · exact ⟨_, s4⟩
        obtain ⟨ys, hs⟩ := hs
        simp! [tup_seq Z x ys hs, hs, Option.getD_some]
      have s5 : seqI Z (.tup (thirteen L)) = some (thirteen L) := rfl
      simp! [s0, s1, s2, s3, s4, s5, Option.getD_some, mkd0, mulR_t m2, List.map_cons, List.map_nil]
      have hb19 : Bdd 1900 r8.flatten c8 := k8.up (by decide)
      have kt : Thing (Z ++ [Ob.dct [] []]) (tabV r8 c8) := thing_tup (xs := [.tup (r8.map tI), .int c8]) ⟨lfs_rows hb19.ns, hb19.b, trivial⟩ (Nat.le_trans (cnt_tab r8 c8 t8.hi fun x hx => by rw [t8.wd x hx]; exact t8.whi) (by decide)) (good_odd (v := .int c8) (by simp) rfl)
      have kn : Thing (Z ++ [Ob.dct [] []]) (.tup (List.replicate many .non)) := by
        refine thing_tup (allL_iff.mpr fun v hv => by rw [(List.mem_replicate.mp hv).2]; trivial) ?_ (good_odd (v := .non) (List.mem_replicate.mpr ⟨by omega, rfl⟩) rfl)
        have := cnts_le (c := 0) (xs := List.replicate many Val.non) fun v hv => by rw [(List.mem_replicate.mp hv).2]; exact Nat.le_refl 0
        rw [List.length_replicate] at this
        omega
      have tb : At Pr fu 5 12 (cTableBad 1) := table_of_bad (d := 4) (k := 1) rfl ((s_is_row hf).up (by decide))
      generalize Z ++ [Ob.dct [] []] = Z7 at *
      refine WF_for (fun k en T => T = Z7 ∧ Fr xs en) ⟨rfl, _, _, _, _, _, _, _, _, _, _, _, _, _, _, _, _, rfl⟩ (fun _ _ _ _ => live_l _ _ _) ?_ ?_
      · rintro k v en T hk ⟨rfl, y1, y2, y3, y4, y5, y6, y7, y8, y9, y10, y11, y12, y13, y14, y15, y16, rfl⟩
        have hv : Thing T v := by
          have := List.mem_of_getElem? hk
          simp only [List.mem_cons, List.not_mem_nil, or_false, List.cons_append, List.nil_append] at this
          rcases this with rfl | rfl | rfl | rfl | rfl | rfl | rfl | rfl | rfl | rfl | rfl | rfl | rfl | rfl | rfl | rfl | rfl | rfl | rfl <;> first | assumption | exact thing_flat (bad_str (by decide) (by decide)) rfl | exact thing_flat (bad_int (k19 (by decide))) rfl | exact thing_flat (bad_bl _) rfl
        have r1 := refused1 (n := 9) (c := 12) (k := 1) (by decide) (.inl rfl) hv.due (tb 9 (by decide) T v hv.ok hv.sq)
        simp only [word] at r1
        refine ⟨_, rfl, ?_⟩
        simp! [r1]
        exact ⟨_, _, _, _, _, _, _, _, _, _, _, _, _, _, _, _, rfl⟩
      · rintro en T ⟨rfl, h⟩
        simp! [GW.W_ok]
        exact h
  · rintro en T ⟨a1, a2, a3, a4, a5, a6, a7, a8, a9, a10, a11, a12, a13, a14, a15, a16, rfl⟩
    simp! [GW.W_ok]
theorem plain (xs : List Int) (hn : xs.length ≤ 63) : ∃ fu S, callN Pr fu 12 40 [.scr (xs.map .int)] [] = .ok (.bl true) S := by
  obtain ⟨v, S, e, rfl⟩ := (plain0 xs (Nat.le_refl (2 ^ 9000))).get
  exact ⟨_, S, e⟩
end K07
open PySem PySem.W PySem.Calls PyProof.Rows
theorem PySem.Challenge.cw_guesswalk_k07_tables_told_holds : PySem.Challenge.rw_guesswalk_k07_tables_told.Holds := by
  w_on; o_law
  refine HandSHeadRun.head_any (r := OpenLaw.row PySem.Challenge.rw_guesswalk_k07_tables_told) (q := view (OpenLaw.row PySem.Challenge.rw_guesswalk_k07_tables_told).prog [50]) (H := K07.hk) (ob := K07.ob) (M := 6000) (loose := K07.loose) (d := HandSHeadRun.topDef (OpenLaw.row PySem.Challenge.rw_guesswalk_k07_tables_told).prog 50) (kwd := []) K07.ob_eq
    (by kernel_rfl) (fun s => by kernel_rfl) K07.run (by kernel_rfl) (by kernel_rfl) (by kernel_rfl) (by rfl) (by first | assumption | decide +kernel) (by decide +kernel) ⟨rfl, rfl, rfl, rfl, rfl, by decide +kernel⟩ ?hw ?hc
  case hw => w_witness2
  case hc =>
    refine GW.walk_g (l := PySem.Challenge.rw_guesswalk_k07_tables_told) (n := 63) (k := 12 + 3) (x := "_law_script") rfl (by decide) (by kernel_rfl) ⟨rfl, by decide, by decide⟩ ?F
    intro w mg fa h Y G hmg0
    obtain ⟨K, KX, c, e⟩ := Y
    have hmg : mg ("law" : PySem.Str) = some (.ref fa) := by
      have e : (HandSHeadRun.topDef (OpenLaw.row PySem.Challenge.rw_guesswalk_k07_tables_told).prog 50).name = ("law" : PySem.Str) := by kernel_rfl
      rw [← e]
      exact hmg0
    exact GW.whole_law K07.all_ok K07.all_bd (n := 12) (li := K07.lawIx) (q := K07.q_law) rfl rfl KX G c e hmg K07.plain
