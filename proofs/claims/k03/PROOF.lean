import PyProof.Rows.All
import PySem.Challenge.RW_guesswalk_k03_ratio_texts
import Wide.All
import OpenK.AllK
import Wide.FinOn
import KE.KStateDown
import KE.KEqNest
import PyProof.ReprRoads
import Lean
import HandS.ForMost
import HandS.Exc
import HandS.ExcInit
import HandS.ExcOwn
import HandS.TryOnly
import HandS.TryMany
import HandS.TupAny
import HandS.TupMul
import HandS.TupLe
import HandS.Style
import HandS.Flow
import HandS.IsInst
import HandS.Conv
import HandS.Deep
import HandS.Defaults
import HandS.Wide
import HandS.StrMore
import HandS.Zip
import HandS.Head0
import HandS.Head1
import HandS.Head2
import HandS.HeadEnd
import HandS.HeadHook1
import HandS.HeadHook2
import PyProof.NeKinds
import HandS.DeepEq
import HandS.RaiseMore
import HandS.Replace
import HandS.ExcField
import KE.KExcIs
import HandS.Call
import HandS.Rev
import KE.GoesEnum
import HandS.CallLocal
import HandS.Ends
import PyProof.NoPylong
import KE.IntTextLaws
import PyProof.ReprBulk
import HandS.Text
import HandS.Codes
import KE.IntTextText
set_option Elab.async false
set_option linter.all false
set_option maxRecDepth 100000
set_option maxHeartbeats 4000000
/-! Core 1: values, the store, worlds, what a value stands for. -/
namespace GW
open PySem L2

inductive Val where
  | non | bl (b : Bool) | int (i : Int) | str (x : Str) | tup (xs : List Val) | lst (xs : List Val) | scr (xs : List Val) | ref (l : Nat) | fn (f : Nat) | exc (c : Nat) (fs : List Val)
inductive Ob where
  | lst (xs : List Val) | dct (ks : List Key) (vs : List Val)
abbrev Store := List Ob
abbrev Enm := List (Option Val)
inductive Res (α : Type) where
  | ok (a : α) (S : Store) | exc (c : Nat) (fs : List Val) (S : Store) | stk
def Res.bind {α β : Type} (r : Res α) (g : α → Store → Res β) : Res β := match r with
  | .ok a S => g a S
  | .exc c fs S => .exc c fs S
  | .stk => .stk
@[simp] theorem Res.bind_ok {α β : Type} (a : α) (S : Store) (g : α → Store → Res β) : (Res.ok a S).bind g = g a S := rfl
@[simp] theorem Res.bind_exc {α β : Type} (c : Nat) (fs : List Val) (S : Store) (g : α → Store → Res β) : (Res.exc c fs S : Res α).bind g = .exc c fs S := rfl
@[simp] theorem Res.bind_stk {α β : Type} (g : α → Store → Res β) : (Res.stk : Res α).bind g = .stk := rfl

structure Fx where
  K : PySem.W.Frag
  fa : Nat → Addr
  ca : Nat → Addr
  cf : Nat → List Str

mutual
inductive Rep (F : Fx) (J : Hp) (r : List Addr) : Val → V → Prop
  | non : Rep F J r .non .non
  | bl (b : Bool) : Rep F J r (.bl b) (.bl b)
  | int (i : Int) : Rep F J r (.int i) (.int i)
  | str (x : Str) : Rep F J r (.str x) (.str x)
  | tup {xs : List Val} {vs : List V} {a : Addr} : SqT F.K J a vs → Reps F J r xs vs → Rep F J r (.tup xs) (.ref a)
  | lst {xs : List Val} {vs : List V} {a : Addr} : J a = some (.lst vs) → Reps F J r xs vs → Rep F J r (.lst xs) (.ref a)
  | scr {xs : List Val} {vs : List V} {a : Addr} : SqL F.K J a vs → Reps F J r xs vs → Rep F J r (.scr xs) (.ref a)
  | ref {l : Nat} {a : Addr} : r[l]? = some a → Rep F J r (.ref l) (.ref a)
  | fn (f : Nat) : Rep F J r (.fn f) (.ref (F.fa f))
  | exc {c : Nat} {fs : List Val} {ws : List V} {d : Addr} : J d = some (.xd ((F.cf c).zip ws)) → Reps F J r fs ws → Rep F J r (.exc c fs) (.ref d)
inductive Reps (F : Fx) (J : Hp) (r : List Addr) : List Val → List V → Prop
  | nil : Reps F J r [] []
  | cons {x : Val} {v : V} {xs : List Val} {vs : List V} : Rep F J r x v → Reps F J r xs vs → Reps F J r (x :: xs) (v :: vs)
end

structure Le (H J : Hp) (r : List Addr) (H' J' : Hp) (r' : List Addr) : Prop where
  keep : ∀ a o, H a = some o → a ∉ r → H' a = some o ∧ a ∉ r'
  pre : r <+: r'
  jj : ∀ a o, J a = some o → J' a = some o
  new : ∀ a o, J' a = some o → J a = some o ∨ H a = none
  trk : ∀ a, H a ≠ none → H' a ≠ none

theorem Le.refl {H J : Hp} {r : List Addr} : Le H J r H J r := ⟨fun _ _ h n => ⟨h, n⟩, List.prefix_refl _, fun _ _ h => h, fun _ _ h => .inl h, fun _ h => h⟩
theorem Le.trans {H J H1 J1 H2 J2 : Hp} {r r1 r2 : List Addr} (x : Le H J r H1 J1 r1) (y : Le H1 J1 r1 H2 J2 r2) : Le H J r H2 J2 r2 where
  keep := fun a o h n => let ⟨p, q⟩ := x.keep a o h n; y.keep a o p q
  pre := x.pre.trans y.pre
  jj := fun a o h => y.jj a o (x.jj a o h)
  new := fun a o h => by
    rcases y.new a o h with h1 | h1
    · exact x.new a o h1
    · exact .inr (Classical.byContradiction fun n => x.trk a n h1)
  trk := fun a h => y.trk a (x.trk a h)

theorem rd_up {J J' : Hp} {a : Addr} {u : HO} (h : ∀ a o, J a = some o → J' a = some o) (r : Rd J a u) : Rd J' a u := by
  rcases r with r | ⟨o, r⟩
  · exact .inl (h _ _ r)
  · exact .inr ⟨o, h _ _ r⟩
theorem sqT_up {K : PySem.W.Frag} {J J' : Hp} {a : Addr} {vs : List V} (h : ∀ a o, J a = some o → J' a = some o) (r : SqT K J a vs) : SqT K J' a vs := by
  rcases r with r | r
  · exact .inl (rd_up h r)
  · exact .inr r
theorem sqL_up {K : PySem.W.Frag} {J J' : Hp} {a : Addr} {vs : List V} (h : ∀ a o, J a = some o → J' a = some o) (r : SqL K J a vs) : SqL K J' a vs := by
  rcases r with r | r
  · exact .inl (rd_up h r)
  · exact .inr r
mutual
theorem Rep.up {F : Fx} {J J' : Hp} {r r' : List Addr} (h : ∀ a o, J a = some o → J' a = some o) (p : r <+: r') : ∀ {x : Val} {v : V}, Rep F J r x v → Rep F J' r' x v
  | _, _, .non => .non
  | _, _, .bl b => .bl b
  | _, _, .int i => .int i
  | _, _, .str x => .str x
  | _, _, .tup q s => .tup (sqT_up h q) (Reps.up h p s)
  | _, _, .lst q s => .lst (h _ _ q) (Reps.up h p s)
  | _, _, .scr q s => .scr (sqL_up h q) (Reps.up h p s)
  | _, _, .ref q => .ref (by
      obtain ⟨t, rfl⟩ := p
      rw [List.getElem?_append_left (List.getElem?_eq_some_iff.mp q).1]; exact q)
  | _, _, .fn f => .fn f
  | _, _, .exc q s => .exc (h _ _ q) (Reps.up h p s)
theorem Reps.up {F : Fx} {J J' : Hp} {r r' : List Addr} (h : ∀ a o, J a = some o → J' a = some o) (p : r <+: r') : ∀ {xs : List Val} {vs : List V}, Reps F J r xs vs → Reps F J' r' xs vs
  | _, _, .nil => .nil
  | _, _, .cons a b => .cons (Rep.up h p a) (Reps.up h p b)
end
theorem Rep.le {F : Fx} {H J H' J' : Hp} {r r' : List Addr} {x : Val} {v : V} (l : Le H J r H' J' r') (p : Rep F J r x v) : Rep F J' r' x v := p.up l.jj l.pre
theorem Reps.le {F : Fx} {H J H' J' : Hp} {r r' : List Addr} {x : List Val} {v : List V} (l : Le H J r H' J' r') (p : Reps F J r x v) : Reps F J' r' x v := p.up l.jj l.pre
theorem Reps.length {F : Fx} {J : Hp} {r : List Addr} : ∀ {xs : List Val} {vs : List V}, Reps F J r xs vs → vs.length = xs.length
  | _, _, .nil => rfl
  | _, _, .cons _ b => congrArg (· + 1) (Reps.length b)
theorem Reps.get {F : Fx} {J : Hp} {r : List Addr} : ∀ {xs : List Val} {vs : List V} {i : Nat} {x : Val}, Reps F J r xs vs → xs[i]? = some x → ∃ v, vs[i]? = some v ∧ Rep F J r x v
  | _, _, _, _, .nil, e => by simp at e
  | _, _, 0, _, .cons a _, e => by simp at e; subst e; exact ⟨_, rfl, a⟩
  | _, _, i + 1, _, .cons _ b, e => by
    obtain ⟨v, h, k⟩ := Reps.get (i := i) b (by simpa using e)
    exact ⟨v, by simpa using h, k⟩
theorem Reps.app {F : Fx} {J : Hp} {r : List Addr} : ∀ {xs : List Val} {vs : List V} {ys : List Val} {us : List V}, Reps F J r xs vs → Reps F J r ys us → Reps F J r (xs ++ ys) (vs ++ us)
  | _, _, _, _, .nil, q => q
  | _, _, _, _, .cons a b, q => .cons a (Reps.app b q)
theorem Reps.take {F : Fx} {J : Hp} {r : List Addr} : ∀ {xs : List Val} {vs : List V} (n : Nat), Reps F J r xs vs → Reps F J r (xs.take n) (vs.take n)
  | _, _, 0, _ => by simp; exact .nil
  | _, _, n + 1, .nil => by simp; exact .nil
  | _, _, n + 1, .cons a b => by simp; exact .cons a (Reps.take n b)
theorem Reps.drop {F : Fx} {J : Hp} {r : List Addr} : ∀ {xs : List Val} {vs : List V} (n : Nat), Reps F J r xs vs → Reps F J r (xs.drop n) (vs.drop n)
  | _, _, 0, q => by simpa using q
  | _, _, n + 1, .nil => by simp; exact .nil
  | _, _, n + 1, .cons a b => by simpa using Reps.drop n b
theorem Reps.set {F : Fx} {J : Hp} {r : List Addr} {x : Val} {v : V} (k : Rep F J r x v) : ∀ {xs : List Val} {vs : List V} (n : Nat), Reps F J r xs vs → Reps F J r (xs.set n x) (vs.set n v)
  | _, _, n, .nil => by simp; exact .nil
  | _, _, 0, .cons a b => by simp; exact .cons k b
  | _, _, n + 1, .cons a b => by simp; exact .cons a (Reps.set k n b)
theorem Reps.eraseIdx {F : Fx} {J : Hp} {r : List Addr} : ∀ {xs : List Val} {vs : List V} (n : Nat), Reps F J r xs vs → Reps F J r (xs.eraseIdx n) (vs.eraseIdx n)
  | _, _, n, .nil => by simp; exact .nil
  | _, _, 0, .cons a b => by simpa using b
  | _, _, n + 1, .cons a b => by simp; exact .cons a (Reps.eraseIdx n b)

def ObR (F : Fx) (J : Hp) (r : List Addr) (H : Hp) (a : Addr) : Ob → Prop
  | .lst xs => ∃ vs, H a = some (.lst vs) ∧ Reps F J r xs vs
  | .dct ks xs => ∃ vs, H a = some (.dK (ks.zip vs)) ∧ Reps F J r xs vs ∧ ks.length = xs.length
structure Wo (F : Fx) (H J : Hp) (r : List Addr) (S : Store) : Prop where
  sub : ∀ a o, J a = some o → H a = some o
  dis : ∀ a ∈ r, J a = none
  nd : r.Nodup
  len : r.length = S.length
  obs : ∀ (l : Nat) o, S[l]? = some o → ∃ a, r[l]? = some a ∧ ObR F J r H a o
def En (F : Fx) (J : Hp) (r : List Addr) (en : Enm) (st : St) : Prop := ∀ (i : Nat) x, en[i]? = some (some x) → ∃ v, st[i]? = some (some v) ∧ Rep F J r x v

section
variable {F : Fx} {H J H' J' : Hp} {r r' : List Addr} {S S' : Store} {en : Enm} {st : St}
theorem En.le (l : Le H J r H' J' r') (p : En F J r en st) : En F J' r' en st := fun i x e => let ⟨v, h, k⟩ := p i x e; ⟨v, h, k.le l⟩
theorem En.put {x : Val} {v : V} {i : Nat} (p : En F J r en st) (k : Rep F J r x v) (h : i < st.length) : En F J r (en.set i (some x)) (st.set i (some v)) := fun j y e => by
  by_cases hj : i = j
  · subst hj
    by_cases hl : i < en.length
    · rw [List.getElem?_set_self hl] at e
      cases e
      exact ⟨v, List.getElem?_set_self h, k⟩
    · rw [List.set_eq_of_length_le (by omega), List.getElem?_eq_none (by omega)] at e
      cases e
  · rw [List.getElem?_set_ne hj] at e ⊢
    exact p j y e
theorem ObR.up {a : Addr} {o : Ob} (h : ∀ a o, J a = some o → J' a = some o) (p : r <+: r') (e : H a = H' a) (q : ObR F J r H a o) : ObR F J' r' H' a o := by
  cases o with
  | lst xs =>
    obtain ⟨vs, e1, k⟩ := q
    exact ⟨vs, e ▸ e1, k.up h p⟩
  | dct ks xs =>
    obtain ⟨vs, e1, k, l⟩ := q
    exact ⟨vs, e ▸ e1, k.up h p, l⟩
theorem ObR.there {a : Addr} {o : Ob} (q : ObR F J r H a o) : ∃ u, H a = some u := by
  cases o with
  | lst xs => obtain ⟨vs, e1, _⟩ := q; exact ⟨_, e1⟩
  | dct ks xs => obtain ⟨vs, e1, _⟩ := q; exact ⟨_, e1⟩
theorem Wo.there (w : Wo F H J r S) {a : Addr} (h : a ∈ r) : ∃ u, H a = some u := by
  obtain ⟨l, hl, e⟩ := List.getElem_of_mem h
  have h2 : l < S.length := by rw [← w.len]; exact hl
  obtain ⟨b, e1, q⟩ := w.obs l S[l] (List.getElem?_eq_getElem h2)
  rw [List.getElem?_eq_getElem hl] at e1
  have e2 : b = a := by rw [← e]; exact (Option.some.inj e1).symm
  subst e2
  exact q.there
theorem Wo.fresh (w : Wo F H J r S) {a : Addr} (h : H a = none) : a ∉ r := fun hm => by
  obtain ⟨u, e⟩ := w.there hm
  rw [h] at e; cases e
theorem Wo.freshJ (w : Wo F H J r S) {a : Addr} (h : H a = none) : J a = none := by
  cases e : J a with
  | none => rfl
  | some o => rw [w.sub a o e] at h; cases h
theorem Wo.frz (w : Wo F H J r S) {p : Addr} {o : HO} (h : H p = none) : Wo F (upd H p o) (upd J p o) r S ∧ Le H J r (upd H p o) (upd J p o) r := by
  have hr := w.fresh h
  have jj : ∀ a u, J a = some u → upd J p o a = some u := fun a u e => by
    rw [upd_ne (ne_of_none e (w.freshJ h))]; exact e
  refine ⟨⟨fun a u e => ?_, fun a hm => ?_, w.nd, w.len, fun l q e => ?_⟩, ⟨fun a u e n => ⟨by rw [upd_ne (ne_of_none e h)]; exact e, n⟩, List.prefix_refl _, jj, fun a u e => ?_, fun a e z => ?_⟩⟩
  · by_cases ha : a = p
    · subst ha; rw [upd_same] at e ⊢; exact e
    · rw [upd_ne ha] at e ⊢; exact w.sub a u e
  · have ha : a ≠ p := fun z => hr (z ▸ hm)
    rw [upd_ne ha]; exact w.dis a hm
  · obtain ⟨a, e1, k⟩ := w.obs l q e
    have ha : a ≠ p := fun z => hr (z ▸ List.mem_of_getElem? e1)
    exact ⟨a, e1, k.up jj (List.prefix_refl _) (upd_ne ha).symm⟩
  · by_cases ha : a = p
    · subst ha; exact .inr h
    · rw [upd_ne ha] at e; exact .inl e
  · by_cases ha : a = p
    · subst ha; rw [upd_same] at z; cases z
    · rw [upd_ne ha] at z; exact e z
theorem Wo.lay (w : Wo F H J r S) {p : Addr} {u : HO} {o : Ob} (h : H p = none) (k : ObR F J (r ++ [p]) (upd H p u) p o) : Wo F (upd H p u) J (r ++ [p]) (S ++ [o]) ∧ Le H J r (upd H p u) J (r ++ [p]) := by
  have hr := w.fresh h
  have hj := w.freshJ h
  refine ⟨⟨fun a z e => ?_, fun a hm => ?_, ?_, by simp [w.len], fun l q e => ?_⟩, ⟨fun a z e n => ?_, List.prefix_append _ _, fun _ _ e => e, fun _ _ e => .inl e, fun a e z => ?_⟩⟩
  · rw [upd_ne (ne_of_none e hj)]; exact w.sub a z e
  · rcases List.mem_append.mp hm with hm | hm
    · exact w.dis a hm
    · rw [List.mem_singleton.mp hm]; exact hj
  · exact List.nodup_append.mpr ⟨w.nd, by simp, fun a ha b hb z => by rw [List.mem_singleton.mp hb] at z; exact hr (z ▸ ha)⟩
  · by_cases hl : l < S.length
    · rw [List.getElem?_append_left hl] at e
      obtain ⟨a, e1, k1⟩ := w.obs l q e
      have ha : a ≠ p := fun z => hr (z ▸ List.mem_of_getElem? e1)
      exact ⟨a, by rw [List.getElem?_append_left (by rw [w.len]; exact hl)]; exact e1, k1.up (fun _ _ z => z) (List.prefix_append _ _) (upd_ne ha).symm⟩
    · have e2 : l = S.length := by
        have := (List.getElem?_eq_some_iff.mp e).1
        simp at this
        omega
      subst e2
      simp at e
      subst e
      exact ⟨p, by rw [← w.len]; simp, k⟩
  · refine ⟨by rw [upd_ne (ne_of_none e h)]; exact e, fun hm => ?_⟩
    rcases List.mem_append.mp hm with hm | hm
    · exact n hm
    · rw [List.mem_singleton.mp hm, h] at e; cases e
  · by_cases ha : a = p
    · subst ha; rw [upd_same] at z; cases z
    · rw [upd_ne ha] at z; exact e z
theorem Wo.own {H0 J0 : Hp} {r0 : List Addr} (w : Wo F H J r S) (l : Le H0 J0 r0 H J r) {p : Addr} {u : HO} {o : Ob} (h0 : H0 p = none) (hr : p ∉ r) (hj : J p = none) (k : ObR F J (r ++ [p]) (upd H p u) p o) :
    Wo F (upd H p u) J (r ++ [p]) (S ++ [o]) ∧ Le H0 J0 r0 (upd H p u) J (r ++ [p]) := by
  refine ⟨⟨fun a z e => ?_, fun a hm => ?_, ?_, by simp [w.len], fun m q e => ?_⟩, ⟨fun a z e n => ?_, l.pre.trans (List.prefix_append _ _), l.jj, l.new, fun a e z => ?_⟩⟩
  · rw [upd_ne (ne_of_none e hj)]; exact w.sub a z e
  · rcases List.mem_append.mp hm with hm | hm
    · exact w.dis a hm
    · rw [List.mem_singleton.mp hm]; exact hj
  · exact List.nodup_append.mpr ⟨w.nd, by simp, fun a ha b hb z => by rw [List.mem_singleton.mp hb] at z; exact hr (z ▸ ha)⟩
  · by_cases hl : m < S.length
    · rw [List.getElem?_append_left hl] at e
      obtain ⟨a, e1, k1⟩ := w.obs m q e
      have ha : a ≠ p := fun z => hr (z ▸ List.mem_of_getElem? e1)
      exact ⟨a, by rw [List.getElem?_append_left (by rw [w.len]; exact hl)]; exact e1, k1.up (fun _ _ z => z) (List.prefix_append _ _) (upd_ne ha).symm⟩
    · have e2 : m = S.length := by
        have := (List.getElem?_eq_some_iff.mp e).1
        simp at this
        omega
      subst e2
      simp at e
      subst e
      exact ⟨p, by rw [← w.len]; simp, k⟩
  · have ha : a ≠ p := ne_of_none e h0
    obtain ⟨q1, q2⟩ := l.keep a z e n
    refine ⟨by rw [upd_ne ha]; exact q1, fun hm => ?_⟩
    rcases List.mem_append.mp hm with hm | hm
    · exact q2 hm
    · exact ha (List.mem_singleton.mp hm)
  · by_cases ha : a = p
    · subst ha; exact e h0
    · rw [upd_ne ha] at z; exact l.trk a e z
theorem Wo.ownF {H0 J0 : Hp} {r0 : List Addr} (w : Wo F H J r S) (l : Le H0 J0 r0 H J r) {p : Addr} {u : HO} (h0 : H0 p = none) (hr : p ∉ r) (hj : J p = none) :
    Wo F (upd H p u) (upd J p u) r S ∧ Le H0 J0 r0 (upd H p u) (upd J p u) r := by
  have jj : ∀ a o, J a = some o → upd J p u a = some o := fun a o e => by rw [upd_ne (ne_of_none e hj)]; exact e
  refine ⟨⟨fun a z e => ?_, fun a hm => ?_, w.nd, w.len, fun m q e => ?_⟩, ⟨fun a z e n => ?_, l.pre, fun a o e => jj a o (l.jj a o e), fun a o e => ?_, fun a e z => ?_⟩⟩
  · by_cases ha : a = p
    · subst ha; rw [upd_same] at e ⊢; exact e
    · rw [upd_ne ha] at e ⊢; exact w.sub a z e
  · have ha : a ≠ p := fun z => hr (z ▸ hm)
    rw [upd_ne ha]; exact w.dis a hm
  · obtain ⟨a, e1, k⟩ := w.obs m q e
    have ha : a ≠ p := fun z => hr (z ▸ List.mem_of_getElem? e1)
    exact ⟨a, e1, k.up jj (List.prefix_refl _) (upd_ne ha).symm⟩
  · obtain ⟨q1, q2⟩ := l.keep a z e n
    exact ⟨by rw [upd_ne (ne_of_none e h0)]; exact q1, q2⟩
  · by_cases ha : a = p
    · subst ha; exact .inr h0
    · rw [upd_ne ha] at e; exact l.new a o e
  · by_cases ha : a = p
    · subst ha; exact e h0
    · rw [upd_ne ha] at z; exact l.trk a e z
theorem Wo.aside (w : Wo F H J r S) {p : Addr} {u : HO} (h : H p = none) : Wo F (upd H p u) J r S ∧ Le H J r (upd H p u) J r ∧ p ∉ r ∧ J p = none := by
  have hr := w.fresh h
  have hj := w.freshJ h
  refine ⟨⟨fun a z e => ?_, w.dis, w.nd, w.len, fun m q e => ?_⟩, ⟨fun a z e n => ⟨by rw [upd_ne (ne_of_none e h)]; exact e, n⟩, List.prefix_refl _, fun _ _ e => e, fun _ _ e => .inl e, fun a e z => ?_⟩, hr, hj⟩
  · rw [upd_ne (ne_of_none e hj)]; exact w.sub a z e
  · obtain ⟨a, e1, k⟩ := w.obs m q e
    have ha : a ≠ p := fun z => hr (z ▸ List.mem_of_getElem? e1)
    exact ⟨a, e1, k.up (fun _ _ z => z) (List.prefix_refl _) (upd_ne ha).symm⟩
  · by_cases ha : a = p
    · subst ha; exact e h
    · rw [upd_ne ha] at z; exact e z
theorem nodup_at {r : List Addr} (h : r.Nodup) {i j : Nat} {a : Addr} (e1 : r[i]? = some a) (e2 : r[j]? = some a) : i = j := by
  obtain ⟨h1, q1⟩ := List.getElem?_eq_some_iff.mp e1
  obtain ⟨h2, q2⟩ := List.getElem?_eq_some_iff.mp e2
  exact (List.getElem_inj h).mp (q1.trans q2.symm)
theorem Wo.wr (w : Wo F H J r S) {l : Nat} {p : Addr} {u : HO} {o : Ob} (e0 : r[l]? = some p) (k : ObR F J r (upd H p u) p o) : Wo F (upd H p u) J r (S.set l o) ∧ Le H J r (upd H p u) J r := by
  have hm := List.mem_of_getElem? e0
  have hj := w.dis p hm
  refine ⟨⟨fun a z e => ?_, w.dis, w.nd, by simp [w.len], fun m q e => ?_⟩, ⟨fun a z e n => ?_, List.prefix_refl _, fun _ _ e => e, fun _ _ e => .inl e, fun a e z => ?_⟩⟩
  · have ha : a ≠ p := fun y => by subst y; rw [hj] at e; cases e
    rw [upd_ne ha]; exact w.sub a z e
  · by_cases hl : l = m
    · subst hl
      have hlt : l < S.length := by rw [← w.len]; exact (List.getElem?_eq_some_iff.mp e0).1
      rw [List.getElem?_set_self hlt] at e
      cases e
      exact ⟨p, e0, k⟩
    · rw [List.getElem?_set_ne hl] at e
      obtain ⟨a, e1, k1⟩ := w.obs m q e
      have ha : a ≠ p := fun z => hl (nodup_at w.nd e0 (z ▸ e1))
      exact ⟨a, e1, k1.up (fun _ _ z => z) (List.prefix_refl _) (upd_ne ha).symm⟩
  · have ha : a ≠ p := fun y => n (y ▸ hm)
    exact ⟨by rw [upd_ne ha]; exact e, n⟩
  · by_cases ha : a = p
    · subst ha; rw [upd_same] at z; cases z
    · rw [upd_ne ha] at z; exact e z
end

/-! ### readings -/
structure WS where
  w : WX
  sd : List V
  iv : St → Prop
def WS.st (W : WS) (st : St) : St := st ++ W.sd.map some
structure EnW (F : Fx) (W : WS) (J : Hp) (r : List Addr) (en : Enm) (st : St) : Prop where
  en : En F J r en (W.st st)
  iv : W.iv st
theorem EnW.le {F : Fx} {W : WS} {H J H' J' : Hp} {r r' : List Addr} {en : Enm} {st : St} (p : EnW F W J r en st) (l : Le H J r H' J' r') : EnW F W J' r' en st := ⟨p.en.le l, p.iv⟩
def PoE (F : Fx) (W : WS) (st : St) (H J : Hp) (r : List Addr) (x : Res Val) (Q : VK) : Prop := match x with
  | .ok v S' => ∀ H' J' r' w, Wo F H' J' r' S' → Le H J r H' J' r' → Rep F J' r' v w → Q w H'
  | .exc c fs S' => ∀ H' J' r' d ws, Wo F H' J' r' S' → Le H J r H' J' r' → J' d = some (.xd ((F.cf c).zip ws)) → Reps F J' r' fs ws → W.w (.ref (F.ca c)) (some d) st H'
  | .stk => False
def TT (F : Fx) (W : WS) (f : Enm → Store → Res Val) : TE := fun st H Q => ∃ en S J r, Wo F H J r S ∧ EnW F W J r en st ∧ PoE F W st H J r (f en S) Q
section
variable {F : Fx} {W : WS} {st : St} {H J H1 J1 : Hp} {r r1 : List Addr} {Q Q' : VK}
theorem PoE.le {x : Res Val} (l : Le H J r H1 J1 r1) (p : PoE F W st H J r x Q) : PoE F W st H1 J1 r1 x Q := by
  cases x with
  | ok v S => exact fun H' J' r' w a b c => p H' J' r' w a (l.trans b) c
  | exc c fs S => exact fun H' J' r' d ws a b e f => p H' J' r' d ws a (l.trans b) e f
  | stk => exact p
def Nx (F : Fx) (W : WS) (st : St) (H J : Hp) (r : List Addr) (g : Val → Store → Res Val) (Q : VK) : VK := fun v H1 =>
  ∃ J1 r1 S1 x, Wo F H1 J1 r1 S1 ∧ Le H J r H1 J1 r1 ∧ Rep F J1 r1 x v ∧ PoE F W st H1 J1 r1 (g x S1) Q
theorem PoE.bind {x : Res Val} {g : Val → Store → Res Val} (p : PoE F W st H J r (x.bind g) Q) : PoE F W st H J r x (Nx F W st H J r g Q) := by
  cases x with
  | ok v S => exact fun H' J' r' w a b c => ⟨J', r', S, v, a, b, c, PoE.le b p⟩
  | exc c fs S => exact p
  | stk => exact p
theorem TT.bind {f : Enm → Store → Res Val} {g : Enm → Val → Store → Res Val} (p : TT F W (fun en S => (f en S).bind (g en)) st H Q) :
    TT F W f st H fun v H1 => ∃ en J1 r1 S1 x, EnW F W J1 r1 en st ∧ Wo F H1 J1 r1 S1 ∧ Rep F J1 r1 x v ∧ PoE F W st H1 J1 r1 (g en x S1) Q := by
  obtain ⟨en, S, J, r, w, e, p⟩ := p
  refine ⟨en, S, J, r, w, e, ?_⟩
  have q := PoE.bind p
  cases h : f en S with
  | ok v S1 =>
    rw [h] at q
    exact fun H' J' r' w a b c => by
      obtain ⟨J1, r1, S2, x, k1, k2, k3, k4⟩ := q H' J' r' w a b c
      exact ⟨en, J1, r1, S2, x, e.le k2, k1, k3, k4⟩
  | exc c fs S1 => rw [h] at q; exact q
  | stk => rw [h] at q; exact q
end
end GW
/-! Core 2: operators on values. -/
namespace L2
open PySem PySem.Spec PyProof.Rows
theorem tuple_mulW1 (l : Addr) (items : Array Value) (n : Nat) (dd : Option Addr) (sl : Array (Option Value)) (x : Int) (u : Tok) (c0 : (decide (x < -(2 ^ 63)) || decide (x ≥ 2 ^ 63)) = false) (c1 : (items.isEmpty || x == 1) = true) :
    Meets (Builtin.«tuple.__mul__» ⟨[.ref l, .int x u], []⟩) (fun _ R s => s.heap.get? l = some { cls := .type "tuple", dict := dd, data := .seq items n, slots := sl } ∧
      R (.ok (.ret (Value.ref l))) s) :=
  .of_wp fun prog w A R s h => by
    obtain ⟨hp, g, d, tk, os⟩ := s
    obtain ⟨hl, h⟩ := h
    have f1 := AutoSeq1.idx_int
    wp_walk using wpAny_loadPart' hl
    repeat (first
      | (refine wpAny_ite_false (decide_eq_false (by rw [c0]; exact Bool.false_ne_true)) ?_; wp_walk using wpAny_loadPart' hl)
      | (refine wpAny_ite_true (decide_eq_true (by rw [c1])) ?_; wp_walk using wpAny_loadPart' hl))
    exact ⟨_, rfl, h⟩
theorem tuple_mulW0 (l : Addr) (items : Array Value) (n : Nat) (dd : Option Addr) (sl : Array (Option Value)) (x : Int) (u : Tok) (c0 : (decide (x < -(2 ^ 63)) || decide (x ≥ 2 ^ 63)) = false) (c1 : (items.isEmpty || x == 1) = false) (c2 : (decide (x ≤ 0) || items.isEmpty) = true) :
    Meets (Builtin.«tuple.__mul__» ⟨[.ref l, .int x u], []⟩) (fun _ R s => s.heap.get? l = some { cls := .type "tuple", dict := dd, data := .seq items n, slots := sl } ∧
      R (.ok (.ret (Value.ref s.heap.objs.size))) { s with heap := s.heap.push { cls := Value.type "tuple", data := Data.seq #[] }, toks := s.toks }) :=
  .of_wp fun prog w A R s h => by
    obtain ⟨hp, g, d, tk, os⟩ := s
    obtain ⟨hl, h⟩ := h
    have f1 := AutoSeq1.idx_int
    wp_walk using wpAny_loadPart' hl
    repeat (first
      | (refine wpAny_ite_false (decide_eq_false (by rw [c0]; exact Bool.false_ne_true)) ?_; wp_walk using wpAny_loadPart' hl)
      | (refine wpAny_ite_false (decide_eq_false (by rw [c1]; exact Bool.false_ne_true)) ?_; wp_walk using wpAny_loadPart' hl)
      | (refine wpAny_ite_true (decide_eq_true (by rw [c2])) ?_; wp_walk using wpAny_loadPart' hl))
    exact ⟨_, rfl, h⟩
section
variable {X : Cx}
def rRepS (K : PySem.W.Frag) : R2 := fun x y H Q => ∃ l k xs, x = .ref l ∧ y = .int k ∧ SqT K H l xs ∧ xs ≠ [] ∧ -1000 ≤ k ∧ k ≤ 1 ∧ (k = 1 → Q (.ref l) H) ∧ (k ≠ 1 → ∀ p, H p = none → Q (.ref p) (upd H p (.tup [])))
theorem op_repS : OpR X (binaryOp .Mult) (rRepS X.K) := by
  intro pins s σ H x y v u Q I rx ry h
  obtain ⟨l, k, xs, rfl, rfl, hT, hne, h1, h2, q1, q0⟩ := h
  cases rx
  obtain ⟨t, rfl⟩ := ry
  obtain ⟨its, r, ⟨⟨cls, dd, data, sl⟩, ho, hc, n, hd⟩, hs⟩ := I.tuple hT
  simp only at hc hd
  subst hc hd
  have hle : its.length = xs.length := r.length.symm
  have hn : its ≠ [] := fun e => hne (by
    rw [e] at hle
    exact List.eq_nil_of_length_eq_zero hle.symm)
  have hi : its.toArray.isEmpty = false := by
    cases its with
    | nil => exact absurd rfl hn
    | cons a b => rfl
  have c0 : (decide (k < -(2 ^ 63)) || decide (k ≥ 2 ^ 63)) = false := by
    rw [decide_eq_false (by omega), decide_eq_false (by omega)] <;> rfl
  by_cases hk : k = 1
  · have c1 : (its.toArray.isEmpty || k == 1) = true := by rw [hk]; simp
    refine wpAny_binaryOp_repeat_ref (T := "tuple") (U := "int") (by decide) ⟨_, ho, rfl⟩ (fun s' => typeIs_int s' k t) noFill_tuple_mul F.fills_int_mul F.slot_int_rmul repeat_tuple F.slot_int_index.lookup
      (call_meets F.slot_int_rmul (typeIs_int s k t) F.entry_int_rmul (F.args_int_rmul_2 _ _) (int_rmul_tuple k t l its.toArray n dd sl)
        ⟨ho, rfl, ⟨_, ho, rfl⟩, call_meets F.slot_tuple_mul ⟨_, ho, rfl⟩ F.entry_tuple_mul (F.args_tuple_mul_2 _ _) (tuple_mulW1 l its.toArray n dd sl k t c0 c1) ⟨ho, ?_⟩⟩)
    exact ⟨.ref l, H, I, rfl, q1 hk⟩
  · have c1 : (its.toArray.isEmpty || k == 1) = false := by
      rw [hi, Bool.false_or]
      exact beq_eq_false_iff_ne.mpr hk
    have c2 : (decide (k ≤ 0) || its.toArray.isEmpty) = true := by
      rw [decide_eq_true (by omega), Bool.true_or]
    refine wpAny_binaryOp_repeat_ref (T := "tuple") (U := "int") (by decide) ⟨_, ho, rfl⟩ (fun s' => typeIs_int s' k t) noFill_tuple_mul F.fills_int_mul F.slot_int_rmul repeat_tuple F.slot_int_index.lookup
      (call_meets F.slot_int_rmul (typeIs_int s k t) F.entry_int_rmul (F.args_int_rmul_2 _ _) (int_rmul_tuple k t l its.toArray n dd sl)
        ⟨ho, rfl, ⟨_, ho, rfl⟩, call_meets F.slot_tuple_mul ⟨_, ho, rfl⟩ F.entry_tuple_mul (F.args_tuple_mul_2 _ _) (tuple_mulW0 l its.toArray n dd sl k t c0 c1 c2) ⟨ho, ?_⟩⟩)
    refine ⟨.ref s.heap.objs.size, _, I.laid (t' := s.toks) (o := .tup []) (fun b ob q => Heap.get?_push_of_some _ q) (Nat.le_refl _) ?_, rfl, q0 hk _ (I.hok.fresh (Nat.le_refl _))⟩
    exact ⟨by simp, [], .nil, IsTup.new _ _⟩
end
end L2
namespace GW
open PySem L2

def seqL (S : Store) : Val → Option (List Val)
  | .lst xs => some xs
  | .ref l => (match S[l]? with
    | some (.lst xs) => some xs
    | _ => none)
  | _ => none
def lim (n : Nat) (x : Val) (S : Store) : Res Val := if n ≤ sizeLine then .ok x S else .stk
def mulOk (i j : Int) : Bool := !(decide (Builtin.Int.intBits i > shortFactorBits) && decide (Builtin.Int.intBits j > shortFactorBits) && Builtin.Int.intTooBig (Builtin.Int.intBits i + Builtin.Int.intBits j))
def divOk (i j : Int) : Bool := decide (j ≠ 0) && !Builtin.divisionGoesByPylong i j
def powOk (i j : Int) : Bool := decide (0 ≤ j) && decide ((Builtin.Int.intBits i : Int) * j ≤ 2 ^ 27)

def addV (x y : Val) (S : Store) : Res Val := match x, y with
  | .int i, .int j => .ok (.int (i + j)) S
  | .str a, .str b => lim (a.length + b.length) (.str (a ++ b)) S
  | .tup a, .tup b => lim (a.length + b.length) (.tup (a ++ b)) S
  | .lst a, .lst b => lim (a.length + b.length) (.lst (a ++ b)) S
  | .lst a, .ref l => (match S[l]? with
    | some (.lst b) => lim (a.length + b.length) (.lst (a ++ b)) S
    | _ => .stk)
  | .ref l, .lst b => (match S[l]? with
    | some (.lst a) => lim (a.length + b.length) (.lst (a ++ b)) S
    | _ => .stk)
  | .ref l, .ref m => (match S[l]?, S[m]? with
    | some (.lst a), some (.lst b) => lim (a.length + b.length) (.lst (a ++ b)) S
    | _, _ => .stk)
  | _, _ => .stk
def subV (x y : Val) (S : Store) : Res Val := match x, y with
  | .int i, .int j => .ok (.int (i - j)) S
  | _, _ => .stk
def repL (n : Int) (a : List Val) (S : Store) : Res Val := if -(2 ^ 63) ≤ n ∧ n < 2 ^ 63 ∧ a.length * n.toNat ≤ sizeLine then .ok (.lst (List.replicate n.toNat a).flatten) S else .stk
def mulV (x y : Val) (S : Store) : Res Val := match x, y with
  | .int i, .int j => if mulOk i j = true then .ok (.int (i * j)) S else .stk
  | .lst a, .int n => repL n a S
  | .ref l, .int n => (match S[l]? with
    | some (.lst a) => repL n a S
    | _ => .stk)
  | .tup a, .int n => if a ≠ [] ∧ -1000 ≤ n ∧ n ≤ 1000 ∧ a.length ≤ 1000 then .ok (.tup (List.replicate n.toNat a).flatten) S else .stk
  | .str a, .int n => if 0 ≤ n ∧ n ≤ 100 ∧ a.length ≤ 10000 then .ok (.str (Txt.mul a n)) S else .stk
  | _, _ => .stk
def divV (x y : Val) (S : Store) : Res Val := match x, y with
  | .int i, .int j => if divOk i j = true then .ok (.int (i.fdiv j)) S else .stk
  | _, _ => .stk
def modV (x y : Val) (S : Store) : Res Val := match x, y with
  | .int i, .int j => if j ≠ 0 then .ok (.int (i.fmod j)) S else .stk
  | _, _ => .stk
def powV (x y : Val) (S : Store) : Res Val := match x, y with
  | .int i, .int j => if powOk i j = true then .ok (.int (i ^ j.toNat)) S else .stk
  | _, _ => .stk
def newR (xs : List Val) (S : Store) : Res Val := if xs.length ≤ sizeLine then .ok (.ref S.length) (S ++ [.lst xs]) else .stk
def addRV (x y : Val) (S : Store) : Res Val := match seqL S x, seqL S y with
  | some a, some b => newR (a ++ b) S
  | _, _ => addV x y S
def mulRV (x y : Val) (S : Store) : Res Val := match seqL S x, y with
  | some a, .int n => if -(2 ^ 63) ≤ n ∧ n < 2 ^ 63 ∧ a.length * n.toNat ≤ sizeLine then newR (List.replicate n.toNat a).flatten S else .stk
  | _, _ => mulV x y S
inductive Bop where
  | add | sub | mul | div | mod | pow | addR | mulR
def Bop.op : Bop → Operator
  | .add => .Add | .sub => .Sub | .mul => .Mult | .div => .FloorDiv | .mod => .Mod | .pow => .Pow | .addR => .Add | .mulR => .Mult
def bopV : Bop → Val → Val → Store → Res Val
  | .add => addV | .sub => subV | .mul => mulV | .div => divV | .mod => modV | .pow => powV | .addR => addRV | .mulR => mulRV

section
variable {F : Fx} {X : Cx} {W : WS} {pins : List (Addr × Obj)} {s : Shared} {st : St} {H J : Hp} {r : List Addr} {S : Store} {Q : VK}
theorem seqL_at (w : Wo F H J r S) {x : Val} {v : V} {xs : List Val} (p : Rep F J r x v) (h : seqL S x = some xs) : ∃ a vs, v = .ref a ∧ H a = some (.lst vs) ∧ Reps F J r xs vs := by
  cases p with
  | lst q t =>
    cases h
    exact ⟨_, _, rfl, w.sub _ _ q, t⟩
  | ref q =>
    simp only [seqL] at h
    split at h
    · rename_i ys e
      cases h
      obtain ⟨b, e1, vs, e2, t⟩ := w.obs _ _ e
      rw [q] at e1
      cases e1
      exact ⟨_, _, rfl, e2, t⟩
    · cases h
  | _ => cases h
theorem PoE.stay {x : Val} {v : V} (p : PoE F W st H J r (.ok x S) Q) (w : Wo F H J r S) (q : Rep F J r x v) : Q v H := p H J r v w Le.refl q
theorem PoE.limE {n : Nat} {x : Val} (p : PoE F W st H J r (lim n x S) Q) : n ≤ sizeLine ∧ PoE F W st H J r (.ok x S) Q := by
  unfold lim at p
  split at p
  · rename_i h; exact ⟨h, p⟩
  · exact p.elim
theorem PoE.newL {xs : List Val} {vs : List V} (p : PoE F W st H J r (.ok (.lst xs) S) Q) (w : Wo F H J r S) (q : Reps F J r xs vs) : ∀ a, H a = none → Q (.ref a) (upd H a (.lst vs)) := fun a ha =>
  let ⟨w', l⟩ := w.frz (o := .lst vs) ha
  p _ _ _ _ w' l (.lst upd_same (q.le l))
theorem PoE.newT {xs : List Val} {vs : List V} (p : PoE F W st H J r (.ok (.tup xs) S) Q) (w : Wo F H J r S) (q : Reps F J r xs vs) : ∀ a, H a = none → Q (.ref a) (upd H a (.tup vs)) := fun a ha =>
  let ⟨w', l⟩ := w.frz (o := .tup vs) ha
  p _ _ _ _ w' l (.tup (SqT.of upd_same) (q.le l))
theorem sqT_H (w : Wo F H J r S) {K : PySem.W.Frag} {a : Addr} {vs : List V} (q : SqT K J a vs) : SqT K H a vs := sqT_up w.sub q
theorem sqL_H (w : Wo F H J r S) {K : PySem.W.Frag} {a : Addr} {vs : List V} (q : SqL K J a vs) : SqL K H a vs := sqL_up w.sub q

theorem PoE.newR {xs : List Val} {vs : List V} (p : PoE F W st H J r (newR xs S) Q) (w : Wo F H J r S) (q : Reps F J r xs vs) : vs.length ≤ sizeLine ∧ ∀ a, H a = none → Q (.ref a) (upd H a (.lst vs)) := by
  unfold GW.newR at p
  split at p
  · rename_i hz
    refine ⟨by rw [q.length]; exact hz, fun a ha => ?_⟩
    obtain ⟨w2, l2⟩ := w.lay (u := .lst vs) (o := .lst xs) ha ⟨vs, upd_same, q.up (fun _ _ z => z) (List.prefix_append _ _)⟩
    exact p _ _ _ _ w2 l2 (.ref (by rw [← w.len]; simp))
  · exact p.elim
theorem add_ok (hK : F.K = X.K) (I : Inv X pins st H s) (w : Wo F H J r S) {x y : Val} {vx vy : V} {ux uy : Value} (px : Rep F J r x vx) (py : Rep F J r y vy) (rx : RelV vx ux) (ry : RelV vy uy)
    (p : PoE F W st H J r (addV x y S) Q) : wpAny (model X.prog X.w) X.A (binaryOp .Add ux uy) (EP X pins st Q) X.xe s := by
  have lists : ∀ (a b : List Val), seqL S x = some a → seqL S y = some b → PoE F W st H J r (lim (a.length + b.length) (.lst (a ++ b)) S) Q → wpAny (model X.prog X.w) X.A (binaryOp .Add ux uy) (EP X pins st Q) X.xe s := fun a b ha hb p => by
    obtain ⟨l1, vs1, rfl, h1, t1⟩ := seqL_at w px ha
    obtain ⟨l2, vs2, rfl, h2, t2⟩ := seqL_at w py hb
    obtain ⟨hz, p⟩ := p.limE
    exact op_cat pins s st H _ _ _ _ Q I rx ry ⟨l1, l2, vs1, vs2, rfl, rfl, h1, h2, by rw [t1.length, t2.length]; exact hz, p.newL w (t1.app t2)⟩
  unfold addV at p
  split at p
  · cases px; cases py
    exact op_add pins s st H _ _ _ _ Q I rx ry ⟨_, _, rfl, rfl, p.stay w (.int _)⟩
  · cases px; cases py
    obtain ⟨hz, p⟩ := p.limE
    exact op_add_str pins s st H _ _ _ _ Q I rx ry ⟨_, _, rfl, rfl, hz, p.stay w (.str _)⟩
  · cases px with
    | tup q1 t1 => cases py with
      | tup q2 t2 =>
        obtain ⟨hz, p⟩ := p.limE
        rw [hK] at q1 q2
        refine op_catA pins s st H _ _ _ _ Q I rx ry ⟨_, _, _, _, rfl, rfl, sqT_H w q1, sqT_H w q2, by rw [t1.length, t2.length]; exact hz, fun e => ?_, fun _ e => ?_, fun _ _ => p.newT w (t1.app t2)⟩
        · have e0 := t1.length
          rw [e] at e0
          have e1 := List.eq_nil_of_length_eq_zero e0.symm
          rw [e1, List.nil_append] at p
          exact p.stay w (.tup (hK ▸ q2) t2)
        · have e0 := t2.length
          rw [e] at e0
          have e1 := List.eq_nil_of_length_eq_zero e0.symm
          rw [e1, List.append_nil] at p
          exact p.stay w (.tup (hK ▸ q1) t1)
  · exact lists _ _ rfl rfl p
  · split at p
    · rename_i h
      exact lists _ _ rfl (by simp [seqL, h]) p
    · exact p.elim
  · split at p
    · rename_i h
      exact lists _ _ (by simp [seqL, h]) rfl p
    · exact p.elim
  · split at p
    · rename_i h1 h2
      exact lists _ _ (by simp [seqL, h1]) (by simp [seqL, h2]) p
    · exact p.elim
  · exact p.elim
theorem sub_ok (I : Inv X pins st H s) (w : Wo F H J r S) {x y : Val} {vx vy : V} {ux uy : Value} (px : Rep F J r x vx) (py : Rep F J r y vy) (rx : RelV vx ux) (ry : RelV vy uy)
    (p : PoE F W st H J r (subV x y S) Q) : wpAny (model X.prog X.w) X.A (binaryOp .Sub ux uy) (EP X pins st Q) X.xe s := by
  unfold subV at p
  split at p
  · cases px; cases py
    exact op_sub pins s st H _ _ _ _ Q I rx ry ⟨_, _, rfl, rfl, p.stay w (.int _)⟩
  · exact p.elim
theorem mul_ok (hK : F.K = X.K) (I : Inv X pins st H s) (w : Wo F H J r S) {x y : Val} {vx vy : V} {ux uy : Value} (px : Rep F J r x vx) (py : Rep F J r y vy) (rx : RelV vx ux) (ry : RelV vy uy)
    (p : PoE F W st H J r (mulV x y S) Q) : wpAny (model X.prog X.w) X.A (binaryOp .Mult ux uy) (EP X pins st Q) X.xe s := by
  have reps : ∀ (m : Nat) {xs : List Val} {vs : List V}, Reps F J r xs vs → Reps F J r (List.replicate m xs).flatten (List.replicate m vs).flatten := by
    intro m
    induction m with
    | zero => intro xs vs _; exact .nil
    | succ m ih => intro xs vs t; rw [List.replicate_succ, List.replicate_succ, List.flatten_cons, List.flatten_cons]; exact t.app (ih t)
  unfold mulV at p
  split at p
  · cases px; cases py
    split at p
    · rename_i h
      obtain ⟨t, rfl⟩ := rx
      obtain ⟨t', rfl⟩ := ry
      refine PyProof.Rows.mul_int ⟨.int _, H, I.tok _, ⟨_, rfl⟩, p.stay w (.int _)⟩ ?_
      unfold IntMulOk
      unfold mulOk at h
      intro z
      rw [z] at h
      cases h
    · exact p.elim
  · cases px with
    | lst q t =>
      cases py
      unfold repL at p
      split at p
      · rename_i h
        obtain ⟨h1, h2, h3⟩ := h
        exact op_rep pins s st H _ _ _ _ Q I rx ry ⟨_, _, _, rfl, rfl, w.sub _ _ q, h1, h2, by rw [t.length]; exact h3, p.newL w (reps _ t)⟩
      · exact p.elim
  · split at p
    · rename_i xsa e0
      cases py
      obtain ⟨l1, vs1, rfl, q1, t1⟩ := seqL_at (x := .ref _) (xs := xsa) w px (by simp only [seqL]; rw [e0])
      unfold repL at p
      split at p
      · rename_i h
        obtain ⟨h1, h2, h3⟩ := h
        exact op_rep pins s st H _ _ _ _ Q I rx ry ⟨_, _, _, rfl, rfl, q1, h1, h2, by rw [t1.length]; exact h3, p.newL w (reps _ t1)⟩
      · exact p.elim
    · exact p.elim
  · cases px with
    | tup q t =>
      cases py
      split at p
      · rename_i h
        obtain ⟨h0, h1, h2, h3⟩ := h
        have hne : ∀ vs : List V, vs.length = _ → vs ≠ [] := fun vs e0 e => h0 (by rw [e] at e0; exact List.eq_nil_of_length_eq_zero e0.symm)
        by_cases h4 : 2 ≤ ‹Int›
        · rw [hK] at q
          exact op_repT pins s st H _ _ _ _ Q I rx ry ⟨_, _, _, rfl, rfl, sqT_H w q, hne _ t.length, h4, h2, by rw [t.length]; exact h3, p.newT w (reps _ t)⟩
        · have q' := q
          rw [hK] at q'
          refine op_repS pins s st H _ _ _ _ Q I rx ry ⟨_, _, _, rfl, rfl, sqT_H w q', hne _ t.length, h1, by omega, fun e => ?_, fun e => ?_⟩
          · subst e
            simp only [Int.toNat_one, List.replicate, List.flatten_cons, List.flatten_nil, List.append_nil] at p
            exact p.stay w (.tup q t)
          · have e0 : (‹Int›).toNat = 0 := by omega
            rw [e0] at p
            exact p.newT w .nil
      · exact p.elim
  · cases px; cases py
    split at p
    · rename_i h
      obtain ⟨h1, h2, h3⟩ := h
      rename_i a n
      obtain ⟨t, rfl⟩ := rx
      obtain ⟨t', rfl⟩ := ry
      refine PySem.SB.mul ⟨?_, ?_, ?_⟩ ?_
      · simp; omega
      · intro z _ hc
        have : (9223372036854775807 : Int) / 100 ≤ (2 ^ 63 - 1) / n := by
          refine Int.le_ediv_of_mul_le (by omega) ?_
          omega
        omega
      · intro _ _
        unfold Builtin.Str.tooLong
        refine decide_eq_false ?_
        have h4 : n.toNat ≤ 100 := by omega
        have h5 : a.length * n.toNat ≤ 10000 * 100 := Nat.mul_le_mul h3 h4
        have h6 : (1000000 : Nat) ≤ sizeLine := by decide
        omega
      · intro t' k
        exact ⟨.str _, H, I.tok _, ⟨_, rfl⟩, p.stay w (.str _)⟩
    · exact p.elim
  · exact p.elim
theorem addR_ok (hK : F.K = X.K) (I : Inv X pins st H s) (w : Wo F H J r S) {x y : Val} {vx vy : V} {ux uy : Value} (px : Rep F J r x vx) (py : Rep F J r y vy) (rx : RelV vx ux) (ry : RelV vy uy)
    (p : PoE F W st H J r (addRV x y S) Q) : wpAny (model X.prog X.w) X.A (binaryOp .Add ux uy) (EP X pins st Q) X.xe s := by
  unfold addRV at p
  split at p
  · rename_i ha hb
    obtain ⟨l1, vs1, rfl, h1, t1⟩ := seqL_at w px ha
    obtain ⟨l2, vs2, rfl, h2, t2⟩ := seqL_at w py hb
    obtain ⟨hz, p⟩ := p.newR w (t1.app t2)
    exact op_cat pins s st H _ _ _ _ Q I rx ry ⟨l1, l2, vs1, vs2, rfl, rfl, h1, h2, by simpa using hz, p⟩
  · exact add_ok hK I w px py rx ry p
theorem mulR_ok (hK : F.K = X.K) (I : Inv X pins st H s) (w : Wo F H J r S) {x y : Val} {vx vy : V} {ux uy : Value} (px : Rep F J r x vx) (py : Rep F J r y vy) (rx : RelV vx ux) (ry : RelV vy uy)
    (p : PoE F W st H J r (mulRV x y S) Q) : wpAny (model X.prog X.w) X.A (binaryOp .Mult ux uy) (EP X pins st Q) X.xe s := by
  have reps : ∀ (m : Nat) {xs : List Val} {vs : List V}, Reps F J r xs vs → Reps F J r (List.replicate m xs).flatten (List.replicate m vs).flatten := by
    intro m
    induction m with
    | zero => intro xs vs _; exact .nil
    | succ m ih => intro xs vs t; rw [List.replicate_succ, List.replicate_succ, List.flatten_cons, List.flatten_cons]; exact t.app (ih t)
  unfold mulRV at p
  split at p
  · rename_i ha
    cases py
    split at p
    · rename_i h
      obtain ⟨h1, h2, h3⟩ := h
      obtain ⟨l1, vs1, rfl, q1, t1⟩ := seqL_at w px ha
      exact op_rep pins s st H _ _ _ _ Q I rx ry ⟨_, _, _, rfl, rfl, q1, h1, h2, by rw [t1.length]; exact h3, (p.newR w (reps _ t1)).2⟩
    · exact p.elim
  · exact mul_ok hK I w px py rx ry p
theorem div_ok (I : Inv X pins st H s) (w : Wo F H J r S) {x y : Val} {vx vy : V} {ux uy : Value} (px : Rep F J r x vx) (py : Rep F J r y vy) (rx : RelV vx ux) (ry : RelV vy uy)
    (p : PoE F W st H J r (divV x y S) Q) : wpAny (model X.prog X.w) X.A (binaryOp .FloorDiv ux uy) (EP X pins st Q) X.xe s := by
  unfold divV at p
  split at p
  · cases px; cases py
    split at p
    · rename_i h
      unfold divOk at h
      obtain ⟨t, rfl⟩ := rx
      obtain ⟨t', rfl⟩ := ry
      obtain ⟨h1, h2⟩ := Bool.and_eq_true_iff.mp h
      exact PyProof.Rows.floordiv_int (of_decide_eq_true h1) ⟨.int _, H, I.tok _, ⟨_, rfl⟩, p.stay w (.int _)⟩ (.inl (by simpa using h2))
    · exact p.elim
  · exact p.elim
theorem mod_ok (I : Inv X pins st H s) (w : Wo F H J r S) {x y : Val} {vx vy : V} {ux uy : Value} (px : Rep F J r x vx) (py : Rep F J r y vy) (rx : RelV vx ux) (ry : RelV vy uy)
    (p : PoE F W st H J r (modV x y S) Q) : wpAny (model X.prog X.w) X.A (binaryOp .Mod ux uy) (EP X pins st Q) X.xe s := by
  unfold modV at p
  split at p
  · cases px; cases py
    split at p
    · rename_i h
      exact op_modN pins s st H _ _ _ _ Q I rx ry ⟨_, _, rfl, rfl, h, p.stay w (.int _)⟩
    · exact p.elim
  · exact p.elim
theorem pow_ok (I : Inv X pins st H s) (w : Wo F H J r S) {x y : Val} {vx vy : V} {ux uy : Value} (px : Rep F J r x vx) (py : Rep F J r y vy) (rx : RelV vx ux) (ry : RelV vy uy)
    (p : PoE F W st H J r (powV x y S) Q) : wpAny (model X.prog X.w) X.A (binaryOp .Pow ux uy) (EP X pins st Q) X.xe s := by
  unfold powV at p
  split at p
  · cases px; cases py
    split at p
    · rename_i h
      unfold powOk at h
      obtain ⟨t, rfl⟩ := rx
      obtain ⟨t', rfl⟩ := ry
      obtain ⟨h1, h2⟩ := Bool.and_eq_true_iff.mp h
      exact PyProof.Rows.pow_int (of_decide_eq_true h1) (of_decide_eq_true h2) ⟨.int _, H, I.tok _, ⟨_, rfl⟩, p.stay w (.int _)⟩
    · exact p.elim
  · exact p.elim
theorem bop_ok (hK : F.K = X.K) (o : Bop) (I : Inv X pins st H s) (w : Wo F H J r S) {x y : Val} {vx vy : V} {ux uy : Value} (px : Rep F J r x vx) (py : Rep F J r y vy) (rx : RelV vx ux) (ry : RelV vy uy)
    (p : PoE F W st H J r (bopV o x y S) Q) : wpAny (model X.prog X.w) X.A (binaryOp o.op ux uy) (EP X pins st Q) X.xe s := by
  cases o with
  | add => exact add_ok hK I w px py rx ry p
  | sub => exact sub_ok I w px py rx ry p
  | mul => exact mul_ok hK I w px py rx ry p
  | div => exact div_ok I w px py rx ry p
  | mod => exact mod_ok I w px py rx ry p
  | pow => exact pow_ok I w px py rx ry p
  | addR => exact addR_ok hK I w px py rx ry p
  | mulR => exact mulR_ok hK I w px py rx ry p
theorem two {a b : Expr} {fa fb : Enm → Store → Res Val} {g : Val → Val → Store → Res Val} (ha : PE X a (TT F W fa)) (hb : PE X b (TT F W fb)) (I : Inv X pins st H s)
    (p : TT F W (fun en S => (fa en S).bind fun x S1 => (fb en S1).bind fun y S2 => g x y S2) st H Q) {α : Type} {QQ : α → Shared → Prop} {f : Value → Value → Sem α}
    (hf : ∀ v u s2 vx vy H2 J2 r2 S2 x y, Inv X pins st H2 s2 → RelV vx v → RelV vy u → Wo F H2 J2 r2 S2 → Rep F J2 r2 x vx → Rep F J2 r2 y vy → PoE F W st H2 J2 r2 (g x y S2) Q → wpAny (model X.prog X.w) X.A (f v u) QQ X.xe s2) :
    wpAny (model X.prog X.w) X.A (eval a X.env) (fun v s1 => wpAny (model X.prog X.w) X.A (eval b X.env) (fun u s2 => wpAny (model X.prog X.w) X.A (f v u) QQ X.xe s2) X.xe s1) X.xe s := by
  refine thn (ha.run pins s st H _ I (TT.bind (g := fun en x S1 => (fb en S1).bind fun y S2 => g x y S2) p)) fun v s1 ⟨vx, H1, I1, r1, en, J1, ro1, S1, x, e1, w1, k1, p1⟩ => ?_
  refine thn (hb.run pins s1 st H1 _ I1 ⟨en, S1, J1, ro1, w1, e1, PoE.bind p1⟩) fun u s2 ⟨vy, H2, I2, r2, J2, ro2, S2, y, w2, l2, k2, p2⟩ => ?_
  exact hf v u s2 vx vy H2 J2 ro2 S2 x y I2 r1 r2 w2 (k1.le l2) k2 p2
theorem sd_bin (hK : F.K = X.K) (o : Bop) {a b : Expr} {fa fb : Enm → Store → Res Val} {pos : Pos} (ha : PE X a (TT F W fa)) (hb : PE X b (TT F W fb)) :
    PE X (.BinOp a o.op b pos) (TT F W fun en S => (fa en S).bind fun x S1 => (fb en S1).bind fun y S2 => bopV o x y S2) :=
  ⟨fun pins s st H Q I p => wpAny_BinOp (two ha hb I p fun v u s2 vx vy H2 J2 r2 S2 x y I2 rx ry w2 k1 k2 q => bop_ok hK o I2 w2 k1 k2 rx ry q)⟩
end
end GW
/-! Core 3: comparisons, truth, tests. -/
/-! numbers of more than six hundred figures, shown -/
namespace GW
open PySem
def digitsKey : Str := "sys.int_max_str_digits"
def Free (h : Heap) : Prop := ∃ mc, h.Ns cStatics mc ∧ mc digitsKey = none
theorem Free.keeps {h h' : Heap} (f : Free h) (k : ∀ b o, h.get? b = some o → h'.get? b = some o) : Free h' := let ⟨mc, a, b⟩ := f; ⟨mc, a.keeps k, b⟩
section
variable {M : Model} {prog : Program} {w : World} {A : Around} {E : Value → Shared → Prop} {s : Shared}
theorem over_free {x : Int} {Q : Option Nat → Shared → Prop} (f : Free s.heap) (hx : x.natAbs.log2 < 12000) (hq : Q none s) : wpAny (model prog w) A (Builtin.overDigitLimit? x) Q E s := by
  unfold Builtin.overDigitLimit?
  by_cases h : x.natAbs.log2 < 1920
  · rw [if_pos h]; exact wpAny_pure hq
  · rw [if_neg h]
    obtain ⟨mc, hn, hm⟩ := f
    refine wpAny_bind (m := Builtin.intMaxStrDigits) ?_
    unfold Builtin.intMaxStrDigits
    refine wpAny_bind (wpAny_nsGet hn ?_)
    change mc "sys.int_max_str_digits" = none at hm
    rw [hm]
    refine wpAny_pure ?_
    have h1 : ¬ (x.natAbs.log2 / 30 + 1 > 1000) := by omega
    have h2 : (x.natAbs.log2 < 3 * 4300) := by omega
    simp only [h1, if_false, h2, or_true, if_true]
    simp
    exact wpAny_pure hq
theorem text_fits {i : Int} (hi : i.natAbs.log2 < 12000) : (Str.ofString (toString i)).length ≤ sizeLine := by
  rw [ofString_length]
  exact Nat.le_trans (int_text_length_le (k := 12000) (by decide) hi) (by decide)
theorem int_shown {i : Int} {t : Tok} (hi : i.natAbs.log2 < 12000) : Meets (Builtin.«int.__repr__» ⟨[.int i t], []⟩) (fun _ R s => Free s.heap ∧ R (.ok (.ret (.str (toString i) s.toks))) { s with toks := s.toks + 1 }) := fun prog w A R s ⟨f, h⟩ => by
  unfold Builtin.«int.__repr__»
  show wpAny _ _ (do let r ← Builtin.overDigitLimit? i; _) _ _ _
  refine wpAny_bind (over_free f hi ?_)
  exact wpAny_bind (wpAny_mkStr (wpAny_pure h) (text_fits hi))
theorem big_obj {i : Int} {t : Tok} {Q : Value → Shared → Prop} (f : Free s.heap) (hi : i.natAbs.log2 < 12000) (hu : A.units < cLine) (h : Q (.str (toString i) s.toks) { s with toks := s.toks + 1 }) : wpAny (model prog w) A (pyReprObj (.int i t)) Q E s :=
  wpAny_pyReprObj_slot hu (typeIs_int s i t) F.slot_int_repr.toG (call_meets F.slot_int_repr (typeIs_int s i t) F.entry_int_repr (F.args_int_repr_1 _) (int_shown hi) ⟨f, _, _, rfl, h⟩)
theorem big_call {i : Int} {t : Tok} {Q : Value → Shared → Prop} (f : Free s.heap) (hi : i.natAbs.log2 < 12000) (hu : A.units + 1 < cLine) (h : Q (.str (toString i) s.toks) { s with toks := s.toks + 1 }) : wpAny (model prog w) A (call (.builtin "repr") [.int i t]) Q E s :=
  call_repr_slot hu (typeIs_int s i t) F.slot_int_repr.toG (call_meets F.slot_int_repr (typeIs_int s i t) F.entry_int_repr (F.args_int_repr_1 _) (int_shown hi) ⟨f, _, _, rfl, h⟩)
theorem big_under {h0 : Heap} {i : Int} {t : Tok} {n : Nat} (f : Free h0) (hi : i.natAbs.log2 < 12000) : ReprK prog w [] h0 n (.int i t) (toString i) := fun m hm A g E s Q _ _ hu hk hQ => by
  rw [pyReprUnder_leaf (Nat.le_trans (Nat.le_add_right _ _) hm) (fun _ e => by cases e)]
  unfold pyRepr
  exact wpAny_bind (big_obj (f.keeps hk) hi (by omega) (wpAny_pure (hQ s.heap _ fun _ _ e => e)))
end
mutual
def big : PyData → Bool
  | .int i => decide (i.natAbs.log2 < 12000)
  | .list xs => bigs xs
  | .tuple xs => bigs xs
  | .dict _ => false
  | _ => true
def bigs : List PyData → Bool
  | [] => true
  | x :: xs => big x && bigs xs
end
section
variable {prog : Program} {w : World} {h0 : Heap}
mutual
theorem bigK (f : Free h0) : ∀ {v : Value} {d : PyData} {as : List Addr}, Reads h0 v d as → big d = true → d.shown.length ≤ sizeLine → ∃ bs, ReadAtMost h0 d.depth bs ∧ ReprK prog w bs h0 d.depth v d.shown
  | _, _, _, .none, _, _ => by
    refine ⟨[], (fun b h => nomatch h), ?_⟩
    unfold PyData.shown
    exact .of_is ReprIs.none _ _ _
  | _, _, _, .bool b, _, _ => by
    refine ⟨[], (fun b h => nomatch h), ?_⟩
    unfold PyData.shown
    exact .of_is (ReprIs.bool b) _ _ _
  | _, _, _, .int i t, hb, _ => by
    refine ⟨[], (fun b h => nomatch h), ?_⟩
    unfold PyData.shown
    exact big_under f (by unfold big at hb; exact of_decide_eq_true hb)
  | _, _, _, .str x t, _, hz => by
    refine ⟨[], (fun b h => nomatch h), ?_⟩
    unfold PyData.shown at hz ⊢
    exact .of_is (ReprIs.str x t hz) _ _ _
  | _, _, _, .list (a := a) (vs := vs) (xs := xs) g1 g2 g3 g4, hb, hz => by
    unfold big at hb
    unfold PyData.shown at hz
    obtain ⟨bs, r1, r2⟩ := bigsK f g4 hb fun t ht => Nat.le_trans (listText_mem_le ht) hz
    have dd : PyData.depthAll xs < (PyData.list xs).depth := by unfold PyData.depth; omega
    have rr : Reads h0 (.ref a) (.list xs) _ := .list g1 g2 g3 g4
    have out := not_mem_of_deeper rr dd r1
    refine ⟨a :: bs, .cons rr (Nat.le_of_lt dd) r1, ?_⟩
    unfold PyData.shown PyData.depth
    obtain ⟨l⟩ := vs
    cases l with
    | cons x l => exact ReprK.list g1 g2 g3 out (by rw [r2.length_eq, List.size_toArray]) fun i y e => r2.item i y (by simpa using e)
    | nil =>
      have q : ReadsAll h0 [] xs _ := g4
      cases q
      have e : listText (PyData.shownAll []) = "[]" := listText_nil
      rw [e]
      exact ReprK.listEmpty g1 g2 g3
  | _, _, _, .tuple (a := a) (xs := xs) g1 g2 g3 g4, hb, hz => by
    unfold big at hb
    unfold PyData.shown at hz
    obtain ⟨bs, r1, r2⟩ := bigsK f g4 hb fun t ht => Nat.le_trans (tupleText_mem_le ht) hz
    have dd : PyData.depthAll xs < (PyData.tuple xs).depth := by unfold PyData.depth; omega
    have rr : Reads h0 (.ref a) (.tuple xs) _ := .tuple g1 g2 g3 g4
    refine ⟨a :: bs, .cons rr (Nat.le_of_lt dd) r1, ?_⟩
    unfold PyData.shown PyData.depth
    exact ReprK.tuple g1 g2 g3 (not_mem_of_deeper rr dd r1) r2
  | _, _, _, .dict _ _ _ _ _, hb, _ => by unfold big at hb; cases hb
theorem bigsK (f : Free h0) : ∀ {vs : List Value} {ds : List PyData} {as : List Addr}, ReadsAll h0 vs ds as → bigs ds = true → (∀ t ∈ PyData.shownAll ds, t.length ≤ sizeLine) → ∃ bs, ReadAtMost h0 (PyData.depthAll ds) bs ∧ ReprAllK prog w bs h0 (PyData.depthAll ds) vs (PyData.shownAll ds)
  | _, _, _, .nil, _, _ => ⟨[], fun b h => (by cases h), by unfold PyData.shownAll; exact .nil⟩
  | _, _, _, .cons (d := d) (ds := ds) r rs, hb, hz => by
    unfold bigs at hb
    unfold PyData.shownAll at hz
    obtain ⟨c1, c2⟩ := Bool.and_eq_true_iff.mp hb
    obtain ⟨b1, p1, q1⟩ := bigK f r c1 (hz _ (List.mem_cons_self ..))
    obtain ⟨b2, p2, q2⟩ := bigsK f rs c2 fun t ht => hz t (List.mem_cons_of_mem _ ht)
    have l1 : d.depth ≤ PyData.depthAll (d :: ds) := by unfold PyData.depthAll; omega
    have l2 : PyData.depthAll ds ≤ PyData.depthAll (d :: ds) := by rw [PyData.depthAll]; omega
    refine ⟨b1 ++ b2, (p1.mono l1).append (p2.mono l2), ?_⟩
    unfold PyData.shownAll
    exact .cons ((q1.more fun b h => List.mem_append_left _ h).level_le l1) (q2.more_le (fun b h => List.mem_append_right _ h) l2)
end
theorem big_repr (f : Free h0) {a : Addr} {d : PyData} {as : List Addr} (r : Reads h0 (.ref a) d as) (hb : big d = true) (hz : d.shown.length ≤ sizeLine) {A : Around} {E : Value → Shared → Prop} {s : Shared} {Q : Value → Shared → Prop}
    (hg : A.guards = some []) (hu : A.units + (d.depth + 1) < cLine) (hk : ∀ b o, h0.get? b = some o → s.heap.get? b = some o)
    (hQ : ∀ h' u tk, (∀ b o, s.heap.get? b = some o → h'.get? b = some o) → Q (.str d.shown u) { s with heap := h', toks := tk }) : wpAny (model prog w) A (call (.builtin "repr") [.ref a]) Q E s := by
  have hu1 : A.units + 1 < cLine := by omega
  cases r with
  | list g1 g2 g3 g4 =>
    rename_i o vs n xs bs0
    unfold big at hb
    unfold PyData.shown at hz hQ
    have rr : Reads h0 (.ref a) (.list xs) _ := .list g1 g2 g3 g4
    obtain ⟨bs, r1, r2⟩ := bigsK (prog := prog) (w := w) f g4 hb fun t ht => Nat.le_trans (listText_mem_le ht) hz
    have dd : PyData.depthAll xs < (PyData.list xs).depth := by unfold PyData.depth; omega
    have un : A.in1.units + (PyData.depthAll xs + 1) < cLine := by
      unfold PyData.depth at hu
      show A.units + 1 + (PyData.depthAll xs + 1) < cLine
      omega
    refine call_repr_slot hu1 ⟨o, hk _ _ g1, g2⟩ F.slot_list_repr.toG ?_
    obtain ⟨l⟩ := vs
    cases l with
    | cons x l => exact call_list_reprK g1 g2 g3 (not_mem_of_deeper rr dd r1) (by rw [r2.length_eq, List.size_toArray]) (fun i y e => r2.item i y (by simpa using e)) hg (fun b _ => Clear.nil b) un hk (fun h' u tk q => ⟨_, _, rfl, hQ h' u tk q⟩) hz
    | nil =>
      have q : ReadsAll h0 [] xs _ := g4
      cases q
      have e : listText (PyData.shownAll []) = "[]" := listText_nil
      rw [e] at hQ
      exact call_list_repr_empty ⟨o, hk _ _ g1, g2⟩ (hk _ _ g1) g3 ⟨_, _, rfl, hQ s.heap _ _ fun _ _ e => e⟩
  | tuple g1 g2 g3 g4 =>
    rename_i o vs n xs
    unfold big at hb
    unfold PyData.shown at hz hQ
    have rr : Reads h0 (.ref a) (.tuple xs) _ := .tuple g1 g2 g3 g4
    obtain ⟨bs, r1, r2⟩ := bigsK (prog := prog) (w := w) f g4 hb fun t ht => Nat.le_trans (tupleText_mem_le ht) hz
    have dd : PyData.depthAll xs < (PyData.tuple xs).depth := by unfold PyData.depth; omega
    have un : A.in1.units + (PyData.depthAll xs + 1) < cLine := by
      unfold PyData.depth at hu
      show A.units + 1 + (PyData.depthAll xs + 1) < cLine
      omega
    refine call_repr_slot hu1 ⟨o, hk _ _ g1, g2⟩ F.slot_tuple_repr ?_
    exact call_tuple_reprK g1 g2 g3 (not_mem_of_deeper rr dd r1) r2 hg (fun b _ => Clear.nil b) un hk (fun h' u tk q => ⟨_, _, rfl, hQ h' u tk q⟩) hz
  | dict _ _ _ _ _ => unfold big at hb; cases hb
end
end GW
namespace GW
open PySem L2

def keyD : Key → PyData
  | .inl i => .int i
  | .inr x => .str x
def allD (f : Val → Option PyData) : List Val → Option (List PyData)
  | [] => some []
  | x :: xs => match f x, allD f xs with
    | some d, some ds => some (d :: ds)
    | _, _ => none
def toD (S : Store) : Nat → Val → Option PyData
  | 0, _ => none
  | n + 1, v => match v with
    | .non => some .none
    | .bl b => some (.bool b)
    | .int i => some (.int i)
    | .str x => some (.str x)
    | .tup xs => (allD (toD S n) xs).map .tuple
    | .lst xs => (allD (toD S n) xs).map .list
    | .ref l => (match S[l]? with
      | some (.lst xs) => (allD (toD S n) xs).map .list
      | some (.dct ks vs) => (allD (toD S n) vs).map fun ds => .dict ((ks.map keyD).zip ds)
      | none => none)
    | _ => none
def scalE (x y : Val) : Option Bool := match x, y with
  | .non, .non => some true
  | .non, .int _ => some false
  | .int _, .non => some false
  | .non, .bl _ => some false
  | .bl _, .non => some false
  | .non, .str _ => some false
  | .str _, .non => some false
  | .int i, .int j => some (decide (i = j))
  | .bl i, .bl j => some (decide (i = j))
  | .str i, .str j => some (decide (i = j))
  | .int _, .str _ => some false
  | .str _, .int _ => some false
  | .bl _, .str _ => some false
  | .str _, .bl _ => some false
  | _, _ => none
def datE (S : Store) (x y : Val) : Option Bool := match toD S 12 x, toD S 12 y with
  | some d, some e => if (SeqAt.shaped d && SeqAt.shaped e) = true then some (PyData.eqv d e) else none
  | _, _ => none
def samL (f : Val → Val → Bool) : List Val → List Val → Bool
  | [], [] => true
  | x :: xs, y :: ys => f x y && samL f xs ys
  | _, _ => false
def samE (S : Store) : Nat → Val → Val → Bool
  | 0, _, _ => false
  | n + 1, x, y => match scalE x y with
    | some b => b
    | none => (match x, y with
      | .ref l, .ref m => decide (l = m)
      | .tup xs, .tup ys => samL (samE S n) xs ys
      | x, y => (match seqL S x, seqL S y with
        | some xs, some ys => samL (samE S n) xs ys
        | _, _ => false))
def topS (S : Store) (x y : Val) : Bool := match x, y with
  | .tup xs, .tup ys => samL (samE S 11) xs ys
  | x, y => (match seqL S x, seqL S y with
    | some xs, some ys => samL (samE S 11) xs ys
    | _, _ => false)
def eqV (S : Store) (x y : Val) : Option Bool := match scalE x y with
  | some b => some b
  | none => if topS S x y = true then some true else datE S x y
def optB (S : Store) : Option Bool → Res Val
  | some b => .ok (.bl b) S
  | none => .stk

section
variable {F : Fx} {X : Cx} {W : WS} {pins : List (Addr × Obj)} {s : Shared} {st : L2.St} {H J : Hp} {r : List Addr} {S : Store} {Q : VK}
theorem allD_dp (w : Wo F H J r S) (f : Val → Option PyData) (ih : ∀ x v d, Rep F J r x v → f x = some d → d.canLay0 = true → Dp F.K H v d) : ∀ {xs : List Val} {vs : List V} {ds : List PyData}, Reps F J r xs vs → allD f xs = some ds → PyData.canLayAll0 ds = true → DpAll F.K H vs ds
  | _, _, _, .nil, e, _ => by cases e; exact .nil
  | _, _, ds, .cons (x := x) (xs := xs) a b, e, h => by
    unfold allD at e
    cases q1 : f x with
    | none => rw [q1] at e; cases e
    | some d =>
      cases q2 : allD f xs with
      | none => rw [q1, q2] at e; cases e
      | some ds' =>
        rw [q1, q2] at e
        cases e
        obtain ⟨h1, h2⟩ := Bool.and_eq_true_iff.mp h
        exact .cons (ih _ _ _ a q1 h1) (allD_dp w f ih b q2 h2)
theorem toD_dp (w : Wo F H J r S) : ∀ (n : Nat) (x : Val) (v : V) (d : PyData), Rep F J r x v → toD S n x = some d → d.canLay0 = true → Dp F.K H v d
  | 0, _, _, _, _, e, _ => by cases e
  | n + 1, x, v, d, k, e, h => by
    cases k with
    | non => cases e; exact .non
    | bl b => cases e; exact .bl b
    | int i => cases e; exact .int i
    | str x => cases e; exact .str x
    | tup q t =>
      simp only [toD, Option.map_eq_some_iff] at e
      obtain ⟨ds, e1, rfl⟩ := e
      exact .tup (sqT_H w q) (allD_dp w _ (toD_dp w n) t e1 h)
    | lst q t =>
      simp only [toD, Option.map_eq_some_iff] at e
      obtain ⟨ds, e1, rfl⟩ := e
      exact .lst (SqL.of (w.sub _ _ q)) (allD_dp w _ (toD_dp w n) t e1 h)
    | scr q t => cases e
    | ref q =>
      simp only [toD] at e
      split at e
      · rename_i xs e0
        simp only [Option.map_eq_some_iff] at e
        obtain ⟨ds, e1, rfl⟩ := e
        obtain ⟨b, e2, vs, e3, t⟩ := w.obs _ _ e0
        rw [q] at e2
        cases e2
        exact .lst (SqL.of e3) (allD_dp w _ (toD_dp w n) t e1 h)
      · simp only [Option.map_eq_some_iff] at e
        obtain ⟨ds, e1, rfl⟩ := e
        cases h
      · cases e
    | fn f => cases e
    | exc _ _ => cases e
theorem scal_of {x y : Val} {vx vy : V} {b : Bool} (px : Rep F J r x vx) (py : Rep F J r y vy) (h : scalE x y = some b) : scal vx vy = true ∧ decide (vx = vy) = b := by
  unfold scalE at h
  split at h <;> first | (cases h; done) | (cases h; cases px; cases py; exact ⟨rfl, by simp⟩)
theorem samL_at {A : Around} {f : Val → Val → Bool} (ih : ∀ x y vx vy ux uy, f x y = true → Rep F J r x vx → Rep F J r y vy → RelV vx ux → RelV vy uy → SeqAt.EqAt A s ux uy true) :
    ∀ {xs ys : List Val} {vs us : List V} {as bs : List Value}, samL f xs ys = true → Reps F J r xs vs → Reps F J r ys us → Vals vs as → Vals us bs → as.length = bs.length ∧ ∀ j (h1 : j < as.length) (h2 : j < bs.length), SeqAt.EqAt A s as[j] bs[j] true
  | [], [], _, _, _, _, _, .nil, .nil, .nil, .nil => ⟨rfl, fun j h1 _ => absurd h1 (Nat.not_lt_zero j)⟩
  | x :: xs, y :: ys, _, _, _, _, h, .cons a1 a2, .cons b1 b2, .cons c1 c2, .cons d1 d2 => by
    obtain ⟨h1, h2⟩ := Bool.and_eq_true_iff.mp (show (f x y && samL f xs ys) = true from h)
    obtain ⟨q1, q2⟩ := samL_at ih h2 a2 b2 c2 d2
    refine ⟨congrArg (· + 1) q1, fun j g1 g2 => ?_⟩
    cases j with
    | zero => exact ih _ _ _ _ _ _ h1 a1 b1 c1 d1
    | succ j => exact q2 j (Nat.lt_of_succ_lt_succ g1) (Nat.lt_of_succ_lt_succ g2)
  | [], _ :: _, _, _, _, _, h, _, _, _, _ => by cases h
  | _ :: _, [], _, _, _, _, h, _, _, _, _ => by cases h
theorem all_true (n : Nat) : ((List.range n).all fun _ => true) = true := List.all_eq_true.mpr fun _ _ => rfl
theorem rc_lists (hK : F.K = X.K) {A : Around} (hu : A.units < cLine) (I : Inv X pins st H s) (w : Wo F H J r S) {f : Val → Val → Bool} (ih : ∀ x y vx vy ux uy, f x y = true → Rep F J r x vx → Rep F J r y vy → RelV vx ux → RelV vy uy → SeqAt.EqAt A.in1 s ux uy true)
    {x y : Val} {vx vy : V} {ux uy : Value} {xs ys : List Val} (hx : seqL S x = some xs) (hy : seqL S y = some ys) (h : samL f xs ys = true) (px : Rep F J r x vx) (py : Rep F J r y vy) (rx : RelV vx ux) (ry : RelV vy uy) :
    SeqAt.RcAt A s ux uy true ∧ SeqAt.RcNeAt A s ux uy false ∧ ∃ a b, ux = .ref a ∧ uy = .ref b := by
  obtain ⟨a, vs, rfl, ha, ta⟩ := seqL_at w px hx
  obtain ⟨b, us, rfl, hb, tb⟩ := seqL_at w py hy
  cases rx
  cases ry
  obtain ⟨as, ra, la, _⟩ := I.list (SqL.of ha)
  obtain ⟨bs, rb, lb, _⟩ := I.list (SqL.of hb)
  obtain ⟨q1, q2⟩ := samL_at ih h ta tb ra rb
  have e1 := SeqAt.RcAt.lists (e := fun _ => true) la.isList lb.isList (by simpa using q1) hu (fun j h1 h2 => by simpa using q2 j (by simpa using h1) (by simpa using h2))
  have e2 := SeqAt.RcNeAt.lists (e := fun _ => true) la.isList lb.isList (by simpa using q1) hu (fun j h1 h2 => by simpa using q2 j (by simpa using h1) (by simpa using h2))
  rw [all_true] at e1 e2
  exact ⟨e1, e2, a, b, rfl, rfl⟩
theorem rc_tups (hK : F.K = X.K) {A : Around} (hu : A.units < cLine) (I : Inv X pins st H s) (w : Wo F H J r S) {f : Val → Val → Bool} (ih : ∀ x y vx vy ux uy, f x y = true → Rep F J r x vx → Rep F J r y vy → RelV vx ux → RelV vy uy → SeqAt.EqAt A.in1 s ux uy true)
    {vx vy : V} {ux uy : Value} {xs ys : List Val} (h : samL f xs ys = true) (px : Rep F J r (.tup xs) vx) (py : Rep F J r (.tup ys) vy) (rx : RelV vx ux) (ry : RelV vy uy) :
    SeqAt.RcAt A s ux uy true ∧ SeqAt.RcNeAt A s ux uy false ∧ ∃ a b, ux = .ref a ∧ uy = .ref b := by
  cases px with
  | tup ha ta =>
    cases py with
    | tup hb tb =>
      cases rx
      cases ry
      obtain ⟨as, ra, la, _⟩ := I.tuple (hK ▸ sqT_H w ha)
      obtain ⟨bs, rb, lb, _⟩ := I.tuple (hK ▸ sqT_H w hb)
      obtain ⟨q1, q2⟩ := samL_at ih h ta tb ra rb
      have hs : as.toArray.size = bs.toArray.size := by simpa using q1
      have e1 := SeqAt.RcAt.tuples (e := fun _ => true) la lb hu (fun j h1 h2 => by simpa using q2 j (by simpa using h1) (by simpa using h2))
      have e2 := SeqAt.RcNeAt.tuples (e := fun _ => true) la lb hu (fun j h1 h2 => by simpa using q2 j (by simpa using h1) (by simpa using h2))
      rw [all_true, hs, beq_self_eq_true] at e1 e2
      exact ⟨e1, e2, _, _, rfl, rfl⟩
theorem eqAt_refs {A : Around} {ux uy : Value} (h : SeqAt.RcAt A s ux uy true) (e : ∃ a b, ux = .ref a ∧ uy = .ref b) : SeqAt.EqAt A s ux uy true := by
  obtain ⟨a, b, rfl, rfl⟩ := e
  by_cases hab : a = b
  · subst hab; exact SeqAt.EqAt.same _
  · exact SeqAt.EqAt.of_refs hab h
theorem samE_ok (hK : F.K = X.K) (I : Inv X pins st H s) (w : Wo F H J r S) : ∀ (n : Nat) (A : Around), A.units + n < cLine → ∀ x y vx vy ux uy, samE S n x y = true → Rep F J r x vx → Rep F J r y vy → RelV vx ux → RelV vy uy → SeqAt.EqAt A s ux uy true
  | 0, _, _, _, _, _, _, _, _, h, _, _, _, _ => by cases h
  | n + 1, A, hu, x, y, vx, vy, ux, uy, h, px, py, rx, ry => by
    have ih := samE_ok hK I w n A.in1 (by show A.units + 1 + n < cLine; omega)
    unfold samE at h
    split at h
    · rename_i b hb
      subst h
      obtain ⟨h1, h2⟩ := scal_of px py hb
      have e := of_decide_eq_true h2
      subst e
      exact eqAt_same rx ry (by cases vx <;> first | rfl | (cases h1; done) | (cases px; done))
    · split at h
      · have e := of_decide_eq_true h
        subst e
        cases px with
        | ref q1 =>
          cases py with
          | ref q2 =>
            rw [q1] at q2
            cases q2
            cases rx
            cases ry
            exact SeqAt.EqAt.same _
      · obtain ⟨q1, _, q3⟩ := rc_tups hK (by omega) I w ih h px py rx ry
        exact eqAt_refs q1 q3
      · split at h
        · rename_i hx hy
          obtain ⟨q1, _, q3⟩ := rc_lists hK (by omega) I w ih hx hy h px py rx ry
          exact eqAt_refs q1 q3
        · cases h
theorem topS_ok (hK : F.K = X.K) (hu : X.A.units + 64 < cLine) (I : Inv X pins st H s) (w : Wo F H J r S) {x y : Val} {vx vy : V} {ux uy : Value} (h : topS S x y = true) (px : Rep F J r x vx) (py : Rep F J r y vy) (rx : RelV vx ux) (ry : RelV vy uy) :
    SeqAt.RcAt X.A s ux uy true ∧ SeqAt.RcNeAt X.A s ux uy false := by
  have ih := samE_ok hK I w 11 X.A.in1 (by show X.A.units + 1 + 11 < cLine; omega)
  unfold topS at h
  split at h
  · obtain ⟨q1, q2, _⟩ := rc_tups hK (by omega) I w ih h px py rx ry
    exact ⟨q1, q2⟩
  · split at h
    · rename_i hx hy
      obtain ⟨q1, q2, _⟩ := rc_lists hK (by omega) I w ih hx hy h px py rx ry
      exact ⟨q1, q2⟩
    · cases h
theorem optB_some {o : Option Bool} (p : PoE F W st H J r (optB S o) Q) : ∃ b, o = some b ∧ PoE F W st H J r (.ok (.bl b) S) Q := by
  cases o with
  | none => exact p.elim
  | some b => exact ⟨b, rfl, p⟩
theorem eq_ok (hK : F.K = X.K) (hu : X.A.units + 64 < cLine) (I : Inv X pins st H s) (w : Wo F H J r S) {x y : Val} {vx vy : V} {ux uy : Value} (px : Rep F J r x vx) (py : Rep F J r y vy) (rx : RelV vx ux) (ry : RelV vy uy)
    (p : PoE F W st H J r (optB S (eqV S x y)) Q) : wpAny (model X.prog X.w) X.A (compareOp .Eq ux uy) (EP X pins st Q) X.xe s := by
  obtain ⟨b, e, p⟩ := optB_some p
  unfold eqV at e
  split at e
  · rename_i b' h
    cases e
    obtain ⟨h1, h2⟩ := scal_of px py h
    exact op_eq pins s st H _ _ _ _ Q I rx ry ⟨h1, by rw [h2]; exact p.stay w (.bl _)⟩
  · split at e
    · rename_i ht
      cases e
      exact (topS_ok hK hu I w ht px py rx ry).1 X.prog X.w _ _ ⟨.bl true, H, I, rfl, p.stay w (.bl _)⟩
    unfold datE at e
    split at e
    · rename_i d1 d2 e1 e2
      split at e
      · rename_i hs
        cases e
        obtain ⟨s1, s2⟩ := Bool.and_eq_true_iff.mp hs
        have k1 := toD_dp w _ _ _ _ px e1 (SeqAt.canLay_of_shaped s1)
        have k2 := toD_dp w _ _ _ _ py e2 (SeqAt.canLay_of_shaped s2)
        rw [hK] at k1 k2
        exact op_eqD hu pins s st H _ _ _ _ Q I rx ry ⟨_, _, k1, k2, s1, s2, p.stay w (.bl _)⟩
      · cases e
    · cases e
theorem ne_ok (hK : F.K = X.K) (hu : X.A.units + 64 < cLine) (I : Inv X pins st H s) (w : Wo F H J r S) {x y : Val} {vx vy : V} {ux uy : Value} (px : Rep F J r x vx) (py : Rep F J r y vy) (rx : RelV vx ux) (ry : RelV vy uy)
    (p : PoE F W st H J r (optB S ((eqV S x y).map not)) Q) : wpAny (model X.prog X.w) X.A (compareOp .NotEq ux uy) (EP X pins st Q) X.xe s := by
  obtain ⟨b, e0, p⟩ := optB_some p
  obtain ⟨c, e, rfl⟩ := Option.map_eq_some_iff.mp e0
  clear e0
  unfold eqV at e
  split at e
  · rename_i b' h
    cases e
    obtain ⟨h1, h2⟩ := scal_of px py h
    exact op_ne pins s st H _ _ _ _ Q I rx ry ⟨h1, by rw [h2]; exact p.stay w (.bl _)⟩
  · split at e
    · rename_i ht
      cases e
      exact (topS_ok hK hu I w ht px py rx ry).2 X.prog X.w _ _ ⟨.bl false, H, I, rfl, p.stay w (.bl _)⟩
    unfold datE at e
    split at e
    · rename_i d1 d2 e1 e2
      split at e
      · rename_i hs
        cases e
        obtain ⟨s1, s2⟩ := Bool.and_eq_true_iff.mp hs
        have k1 := toD_dp w _ _ _ _ px e1 (SeqAt.canLay_of_shaped s1)
        have k2 := toD_dp w _ _ _ _ py e2 (SeqAt.canLay_of_shaped s2)
        rw [hK] at k1 k2
        exact op_neD hu pins s st H _ _ _ _ Q I rx ry ⟨_, _, k1, k2, s1, s2, p.stay w (.bl _)⟩
      · cases e
    · cases e
end

inductive Cop where
  | eq | ne | lt | le | gt | ge | is | isn | inn | nin
def Cop.op : Cop → CmpOp
  | .eq => .Eq | .ne => .NotEq | .lt => .Lt | .le => .LtE | .gt => .Gt | .ge => .GtE | .is => .Is | .isn => .IsNot | .inn => .In | .nin => .NotIn
def intC (f : Int → Int → Bool) (x y : Val) : Option Bool := match x, y with
  | .int i, .int j => some (f i j)
  | _, _ => none
def isE (x y : Val) : Option Bool := match y with
  | .non => (match x with
    | .non => some true
    | _ => some false)
  | .bl b => (match x with
    | .bl a => some (decide (a = b))
    | _ => none)
  | _ => none
def flat1 : Val → Option V
  | .non => some .non
  | .bl b => some (.bl b)
  | .int i => some (.int i)
  | .str x => some (.str x)
  | _ => none
def flats : List Val → Option (List V)
  | [] => some []
  | x :: xs => match flat1 x, flats xs with
    | some v, some vs => some (v :: vs)
    | _, _ => none
def memE (x : Val) (xs : List Val) : Option Bool := match flat1 x, flats xs with
  | some v, some vs => some (L2.inV v vs)
  | _, _ => none
def sign1 (a : Str) : Option Nat := match a.cps.toList with
  | [c] => some c
  | _ => none
theorem sign1_eq {a : Str} {c : Nat} (h : sign1 a = some c) : a = ⟨#[c]⟩ := by
  unfold sign1 at h
  split at h
  · rename_i d e
    cases h
    obtain ⟨⟨l⟩⟩ := a
    simp only at e
    rw [e]
  · cases h
def inE (S : Store) (x y : Val) : Option Bool := match y with
  | .str z => (match x with
    | .str a => (sign1 a).map fun c => decide (c ∈ z.cps.toList)
    | _ => none)
  | .tup xs => memE x xs
  | .lst xs => memE x xs
  | .ref l => (match S[l]? with
    | some (.lst xs) => memE x xs
    | _ => none)
  | _ => none
def cmpE (o : Cop) (x y : Val) (S : Store) : Option Bool := match o with
  | .eq => eqV S x y
  | .ne => (eqV S x y).map not
  | .lt => intC (fun i j => decide (i < j)) x y
  | .le => intC (fun i j => decide (i ≤ j)) x y
  | .gt => intC (fun i j => decide (j < i)) x y
  | .ge => intC (fun i j => decide (j ≤ i)) x y
  | .is => isE x y
  | .isn => (isE x y).map not
  | .inn => inE S x y
  | .nin => (inE S x y).map not

section
variable {F : Fx} {X : Cx} {W : WS} {pins : List (Addr × Obj)} {s : Shared} {st : L2.St} {H J : Hp} {r : List Addr} {S : Store} {Q : VK}
theorem flat1_rep {x : Val} {v u : V} (p : Rep F J r x v) (h : flat1 x = some u) : v = u ∧ L2.flatV v = true := by
  unfold flat1 at h
  split at h <;> first | (cases h; done) | (cases p; cases h; exact ⟨rfl, rfl⟩)
theorem flats_rep : ∀ {xs : List Val} {vs us : List V}, Reps F J r xs vs → flats xs = some us → vs = us ∧ vs.all L2.flatV = true
  | _, _, us, .nil, h => by cases h; exact ⟨rfl, rfl⟩
  | _, _, us, .cons (x := x) (xs := xs) a b, h => by
    unfold flats at h
    cases q1 : flat1 x with
    | none => rw [q1] at h; cases h
    | some d =>
      cases q2 : flats xs with
      | none => rw [q1, q2] at h; cases h
      | some ds =>
        rw [q1, q2] at h
        cases h
        obtain ⟨e1, f1⟩ := flat1_rep a q1
        obtain ⟨e2, f2⟩ := flats_rep b q2
        subst e1 e2
        exact ⟨rfl, by rw [List.all_cons, f1, f2]; rfl⟩
theorem in_core (hK : F.K = X.K) (w : Wo F H J r S) {x y : Val} {vx vy : V} {b : Bool} (px : Rep F J r x vx) (py : Rep F J r y vy) (h : inE S x y = some b) :
    (∃ (c : Nat) (z : Str), vx = .str ⟨#[c]⟩ ∧ vy = .str z ∧ decide (c ∈ z.cps.toList) = b) ∨
    (∃ p ys, vy = .ref p ∧ (SqL X.K H p ys ∨ SqT X.K H p ys) ∧ L2.flatV vx = true ∧ ys.all L2.flatV = true ∧ L2.inV vx ys = b) := by
  have mem : ∀ {xs : List Val} {vs : List V}, Reps F J r xs vs → memE x xs = some b → L2.flatV vx = true ∧ vs.all L2.flatV = true ∧ L2.inV vx vs = b := fun {xs vs} t e => by
    unfold memE at e
    cases q1 : flat1 x with
    | none => rw [q1] at e; cases e
    | some d =>
      cases q2 : flats xs with
      | none => rw [q1, q2] at e; cases e
      | some ds =>
        rw [q1, q2] at e
        obtain ⟨e1, f1⟩ := flat1_rep px q1
        obtain ⟨e2, f2⟩ := flats_rep t q2
        subst e1 e2
        exact ⟨f1, f2, Option.some.inj e⟩
  cases py with
  | str z =>
    simp only [inE] at h
    split at h
    · cases px
      obtain ⟨c, h1, h2⟩ := Option.map_eq_some_iff.mp h
      rw [sign1_eq h1]
      exact .inl ⟨_, _, rfl, rfl, h2⟩
    · cases h
  | tup q t =>
    obtain ⟨f1, f2, f3⟩ := mem t h
    exact .inr ⟨_, _, rfl, .inr (hK ▸ sqT_H w q), f1, f2, f3⟩
  | lst q t =>
    obtain ⟨f1, f2, f3⟩ := mem t h
    exact .inr ⟨_, _, rfl, .inl (SqL.of (w.sub _ _ q)), f1, f2, f3⟩
  | ref q =>
    simp only [inE] at h
    split at h
    · rename_i xs e0
      obtain ⟨b', e2, vs, e3, t⟩ := w.obs _ _ e0
      rw [q] at e2
      cases e2
      obtain ⟨f1, f2, f3⟩ := mem t h
      exact .inr ⟨_, _, rfl, .inl (SqL.of e3), f1, f2, f3⟩
    · cases h
  | _ => cases h
theorem is_core {x y : Val} {vx vy : V} {b : Bool} (px : Rep F J r x vx) (py : Rep F J r y vy) (h : isE x y = some b) :
    (vy = .non ∧ decide (vx = .non) = b) ∨ (∃ a c, vx = .bl a ∧ vy = .bl c ∧ decide (a = c) = b) := by
  cases py with
  | non =>
    simp only [isE] at h
    cases px <;> first | (cases h; exact .inl ⟨rfl, by simp⟩)
  | bl c =>
    simp only [isE] at h
    cases px <;> first | (cases h; done) | exact .inr ⟨_, _, rfl, rfl, Option.some.inj h⟩
  | _ => cases h
theorem cmp_ok (hK : F.K = X.K) (hu : X.A.units + 64 < cLine) (o : Cop) (I : Inv X pins st H s) (w : Wo F H J r S) {x y : Val} {vx vy : V} {ux uy : Value} (px : Rep F J r x vx) (py : Rep F J r y vy) (rx : RelV vx ux) (ry : RelV vy uy)
    (p : PoE F W st H J r (optB S (cmpE o x y S)) Q) : wpAny (model X.prog X.w) X.A (compareOp o.op ux uy) (EP X pins st Q) X.xe s := by
  have intz : ∀ f : Int → Int → Bool, PoE F W st H J r (optB S (intC f x y)) Q → ∃ i j, vx = .int i ∧ vy = .int j ∧ Q (.bl (f i j)) H := fun f p => by
    obtain ⟨b, e, p⟩ := optB_some p
    unfold intC at e
    split at e
    · cases px; cases py; cases e
      exact ⟨_, _, rfl, rfl, p.stay w (.bl _)⟩
    · cases e
  cases o with
  | eq => exact eq_ok hK hu I w px py rx ry p
  | ne => exact ne_ok hK hu I w px py rx ry p
  | lt => exact op_lt pins s st H _ _ _ _ Q I rx ry (intz _ p)
  | le => exact op_le pins s st H _ _ _ _ Q I rx ry (intz _ p)
  | gt => exact op_gt pins s st H _ _ _ _ Q I rx ry (intz _ p)
  | ge => exact op_ge pins s st H _ _ _ _ Q I rx ry (intz _ p)
  | is =>
    obtain ⟨b, e, p⟩ := optB_some p
    rcases is_core px py e with ⟨e1, e2⟩ | ⟨a, c, e1, e2, e3⟩
    · exact op_isN pins s st H _ _ _ _ Q I rx ry ⟨e1, by rw [e2]; exact p.stay w (.bl _)⟩
    · exact op_is_bl pins s st H _ _ _ _ Q I rx ry ⟨a, c, e1, e2, by rw [e3]; exact p.stay w (.bl _)⟩
  | isn =>
    obtain ⟨b, e0, p⟩ := optB_some p
    obtain ⟨c0, e, rfl⟩ := Option.map_eq_some_iff.mp e0
    clear e0
    rcases is_core px py e with ⟨e1, e2⟩ | ⟨a, c, e1, e2, e3⟩
    · exact op_notN pins s st H _ _ _ _ Q I rx ry ⟨e1, by rw [e2]; exact p.stay w (.bl _)⟩
    · exact op_isnot_bl pins s st H _ _ _ _ Q I rx ry ⟨a, c, e1, e2, by rw [e3]; exact p.stay w (.bl _)⟩
  | inn =>
    obtain ⟨b, e, p⟩ := optB_some p
    rcases in_core hK w px py e with ⟨c, z, e1, e2, e3⟩ | ⟨q, ys, e1, e2, e3, e4, e5⟩
    · exact op_in_sign pins s st H _ _ _ _ Q I rx ry ⟨c, z, e1, e2, by rw [e3]; exact p.stay w (.bl _)⟩
    · exact op_in_seq pins s st H _ _ _ _ Q I rx ry ⟨q, ys, e1, e2, e3, e4, by rw [if_neg Bool.false_ne_true, e5]; exact p.stay w (.bl _)⟩
  | nin =>
    obtain ⟨b, e0, p⟩ := optB_some p
    obtain ⟨c0, e, rfl⟩ := Option.map_eq_some_iff.mp e0
    clear e0
    rcases in_core hK w px py e with ⟨c, z, e1, e2, e3⟩ | ⟨q, ys, e1, e2, e3, e4, e5⟩
    · exact op_notIn_sign pins s st H _ _ _ _ Q I rx ry ⟨c, z, e1, e2, by rw [e3]; exact p.stay w (.bl _)⟩
    · exact op_notIn_seq pins s st H _ _ _ _ Q I rx ry ⟨q, ys, e1, e2, e3, e4, by rw [if_pos rfl, e5]; exact p.stay w (.bl _)⟩
end

/-! ### truth -/
def truE (S : Store) (x : Val) : Option Bool := match x with
  | .non => some false
  | .bl b => some b
  | .int i => some (i != 0)
  | .str z => if z.length ≤ sizeLine then some ((z.length : Int) != 0) else none
  | .tup xs => some (!xs.isEmpty)
  | .lst xs => some (!xs.isEmpty)
  | .ref l => (match S[l]? with
    | some (.lst xs) => some (!xs.isEmpty)
    | some (.dct ks _) => some (!ks.isEmpty)
    | none => none)
  | _ => none
def truR (x : Val) (S : Store) : Res Bool := match truE S x with
  | some b => .ok b S
  | none => .stk
def PoB (F : Fx) (W : WS) (st : L2.St) (H J : Hp) (r : List Addr) (x : Res Bool) (Q : Bool → Hp → Prop) : Prop := match x with
  | .ok v S' => ∀ H' J' r', Wo F H' J' r' S' → Le H J r H' J' r' → Q v H'
  | .exc c fs S' => ∀ H' J' r' d ws, Wo F H' J' r' S' → Le H J r H' J' r' → J' d = some (.xd ((F.cf c).zip ws)) → Reps F J' r' fs ws → W.w (.ref (F.ca c)) (some d) st H'
  | .stk => False
def TB (F : Fx) (W : WS) (f : Enm → Store → Res Bool) : L2.TT := fun st H Q => ∃ en S J r, Wo F H J r S ∧ EnW F W J r en st ∧ PoB F W st H J r (f en S) Q
section
variable {F : Fx} {X : Cx} {W : WS} {pins : List (Addr × Obj)} {s : Shared} {st : L2.St} {H J H1 J1 : Hp} {r r1 : List Addr} {S : Store}
theorem PoB.le {x : Res Bool} {Q : Bool → Hp → Prop} (l : Le H J r H1 J1 r1) (p : PoB F W st H J r x Q) : PoB F W st H1 J1 r1 x Q := by
  cases x with
  | ok v S => exact fun H' J' r' a b => p H' J' r' a (l.trans b)
  | exc c fs S => exact fun H' J' r' d ws a b e f => p H' J' r' d ws a (l.trans b) e f
  | stk => exact p
theorem TB.ofE {f : Enm → Store → Res Val} {g : Enm → Val → Store → Res Bool} {Q : Bool → Hp → Prop} (p : TB F W (fun en S => (f en S).bind (g en)) st H Q) :
    TT F W f st H fun v H1 => ∃ en J1 r1 S1 x, EnW F W J1 r1 en st ∧ Wo F H1 J1 r1 S1 ∧ Rep F J1 r1 x v ∧ PoB F W st H1 J1 r1 (g en x S1) Q := by
  obtain ⟨en, S, J, r, w, e, p⟩ := p
  refine ⟨en, S, J, r, w, e, ?_⟩
  dsimp only at p
  cases h : f en S with
  | ok v S1 =>
    rw [h] at p
    exact fun H' J' r' vw a b c => ⟨en, J', r', S1, v, e.le b, a, c, PoB.le b p⟩
  | exc c fs S1 => rw [h] at p; exact p
  | stk => rw [h] at p; exact p
theorem TB.bind {f : Enm → Store → Res Bool} {g : Enm → Bool → Store → Res Bool} {Q : Bool → Hp → Prop} (p : TB F W (fun en S => (f en S).bind (g en)) st H Q) :
    TB F W f st H fun v H1 => ∃ en J1 r1 S1, EnW F W J1 r1 en st ∧ Wo F H1 J1 r1 S1 ∧ PoB F W st H1 J1 r1 (g en v S1) Q := by
  obtain ⟨en, S, J, r, w, e, p⟩ := p
  refine ⟨en, S, J, r, w, e, ?_⟩
  dsimp only at p
  cases h : f en S with
  | ok v S1 =>
    rw [h] at p
    exact fun H' J' r' a b => ⟨en, J', r', S1, e.le b, a, PoB.le b p⟩
  | exc c fs S1 => rw [h] at p; exact p
  | stk => rw [h] at p; exact p
theorem TT.ofB {f : Enm → Store → Res Bool} {g : Enm → Bool → Store → Res Val} {Q : VK} (p : TT F W (fun en S => (f en S).bind (g en)) st H Q) :
    TB F W f st H fun v H1 => ∃ en J1 r1 S1, EnW F W J1 r1 en st ∧ Wo F H1 J1 r1 S1 ∧ PoE F W st H1 J1 r1 (g en v S1) Q := by
  obtain ⟨en, S, J, r, w, e, p⟩ := p
  refine ⟨en, S, J, r, w, e, ?_⟩
  dsimp only at p
  cases h : f en S with
  | ok v S1 =>
    rw [h] at p
    exact fun H' J' r' a b => ⟨en, J', r', S1, e.le b, a, PoE.le b p⟩
  | exc c fs S1 => rw [h] at p; exact p
  | stk => rw [h] at p; exact p
theorem tru_core (hK : F.K = X.K) (w : Wo F H J r S) {x : Val} {v : V} {b : Bool} (p : Rep F J r x v) (h : truE S x = some b) : TruV X.K v H b := by
  have emp : ∀ {xs : List Val} {vs : List V}, Reps F J r xs vs → (!xs.isEmpty) = !vs.isEmpty := fun {xs vs} t => by cases t <;> rfl
  cases p with
  | non => cases h; rfl
  | bl b => cases h; rfl
  | int i => cases h; rfl
  | str z =>
    simp only [truE] at h
    split at h
    · rename_i hz; exact ⟨hz, (Option.some.inj h).symm⟩
    · cases h
  | tup q t => exact .inr (.inl ⟨_, hK ▸ sqT_H w q, by rw [← emp t]; exact (Option.some.inj h).symm⟩)
  | lst q t => exact .inl ⟨_, SqL.of (w.sub _ _ q), by rw [← emp t]; exact (Option.some.inj h).symm⟩
  | ref q =>
    simp only [truE] at h
    split at h
    · rename_i xs e0
      obtain ⟨b', e2, vs, e3, t⟩ := w.obs _ _ e0
      rw [q] at e2
      cases e2
      exact .inl ⟨_, SqL.of e3, by rw [← emp t]; exact (Option.some.inj h).symm⟩
    · rename_i ks xs e0
      obtain ⟨b', e2, vs, e3, t, hl⟩ := w.obs _ _ e0
      rw [q] at e2
      cases e2
      refine .inr (.inr ⟨_, e3, ?_⟩)
      rw [← Option.some.inj h]
      have hl2 := t.length
      cases ks with
      | nil => rfl
      | cons k ks =>
        cases vs with
        | nil => simp at hl hl2; omega
        | cons v vs => rfl
    · cases h
  | _ => cases h
variable {a b c : Expr} {pos : Pos}
theorem tst_val (hK : F.K = X.K) {f : Enm → Store → Res Val} (ha : PE X a (TT F W f)) (he : ∀ whole, isTrue a X.env whole = (do let v ← whole; standAt a.pos; holding [v] (truthy v))) :
    PT X a (TB F W fun en S => (f en S).bind truR) :=
  ⟨fun pins s st H Q I p => PyProof.Rows.isTrue_plain (thn (ha.run pins s st H _ I (TB.ofE (g := fun _ => truR) p)) fun v s1 ⟨vx, H1, I1, r1, en, J1, ro1, S1, x, e1, w1, k1, p1⟩ => by
    unfold truR at p1
    cases h : truE S1 x with
    | none => rw [h] at p1; exact p1.elim
    | some b =>
      rw [h] at p1
      exact tru_ok pins s1 st H1 vx v _ I1 r1 ⟨b, tru_core hK w1 k1 h, p1 H1 J1 ro1 w1 Le.refl⟩) (he _)⟩
def optT (S : Store) : Option Bool → Res Bool
  | some b => .ok b S
  | none => .stk
theorem sd_cmp (hK : F.K = X.K) (hu : X.A.units + 64 < cLine) (o : Cop) {fa fb : Enm → Store → Res Val} (ha : PE X a (TT F W fa)) (hb : PE X b (TT F W fb)) (hm : behindInMarks o.op b = false) :
    PE X (.Compare a [o.op] [b] pos) (TT F W fun en S => (fa en S).bind fun x S1 => (fb en S1).bind fun y S2 => optB S2 (cmpE o x y S2)) :=
  ⟨fun pins s st H Q I p => wpAny_Compare1 (two ha hb I p fun v u s2 vx vy H2 J2 r2 S2 x y I2 rx ry w2 k1 k2 q => cmp_ok hK hu o I2 w2 k1 k2 rx ry q) hm⟩
theorem tst_cmp (hK : F.K = X.K) (hu : X.A.units + 64 < cLine) (o : Cop) {fa fb : Enm → Store → Res Val} (ha : PE X a (TT F W fa)) (hb : PE X b (TT F W fb)) (hm : behindInMarks o.op b = false) :
    PT X (.Compare a [o.op] [b] pos) (TB F W fun en S => (fa en S).bind fun x S1 => (fb en S1).bind fun y S2 => optT S2 (cmpE o x y S2)) := by
  refine ⟨fun pins s st H Q I p => wpAny_isTrue_Compare1 ?_ hm⟩
  have p' : TT F W (fun en S => (fa en S).bind fun x S1 => (fb en S1).bind fun y S2 => optB S2 (cmpE o x y S2)) st H fun v H' => ∃ b, v = .bl b ∧ Q b H' := by
    obtain ⟨en, S, J, r, w, e, p⟩ := p
    refine ⟨en, S, J, r, w, e, ?_⟩
    cases h1 : fa en S with
    | stk => simp only [h1, Res.bind] at p; exact p.elim
    | exc c fs S1 => simp only [h1, Res.bind] at p ⊢; exact p
    | ok x S1 =>
      simp only [h1, Res.bind] at p ⊢
      cases h2 : fb en S1 with
      | stk => simp only [h2] at p; exact p.elim
      | exc c fs S2 => simp only [h2] at p ⊢; exact p
      | ok y S2 =>
        simp only [h2] at p ⊢
        cases h3 : cmpE o x y S2 with
        | none => rw [h3] at p; exact p.elim
        | some b =>
          rw [h3] at p
          exact fun H' J' r' w' a l k => by cases k; exact ⟨b, rfl, p H' J' r' a l⟩
  refine two ha hb I p' fun v u s2 vx vy H2 J2 r2 S2 x y I2 rx ry w2 k1 k2 q => ?_
  exact thn (cmp_ok hK hu o I2 w2 k1 k2 rx ry q) fun cv s3 ⟨z, H3, I3, r3, b, e, q3⟩ => by
    subst e
    cases r3
    exact wpAny_truthy_bool ⟨H3, I3, q3⟩
theorem tst_and {rest : List Expr} {fa fb : Enm → Store → Res Bool} (ha : PT X a (TB F W fa)) (hb : PW X (.BoolOp .And (b :: rest) pos) (TB F W fb)) :
    PW X (.BoolOp .And (a :: b :: rest) pos) (TB F W fun en S => (fa en S).bind fun c S1 => if c = true then fb en S1 else .ok false S1) := by
  refine ⟨fun wh pins s st H Q I p => PyProof.Rows.isTrue_and (thn (ha.run pins s st H _ I (TB.bind (g := fun en c S1 => if c = true then fb en S1 else .ok false S1) p)) fun c s1 ⟨H1, I1, en, J1, r1, S1, e1, w1, p1⟩ => ?_)⟩
  cases c with
  | true => exact hb.run wh pins s1 st H1 Q I1 ⟨en, S1, J1, r1, w1, e1, p1⟩
  | false => exact ⟨H1, I1, p1 H1 J1 r1 w1 Le.refl⟩
theorem tst_or {rest : List Expr} {fa fb : Enm → Store → Res Bool} (ha : PT X a (TB F W fa)) (hb : PW X (.BoolOp .Or (b :: rest) pos) (TB F W fb)) :
    PW X (.BoolOp .Or (a :: b :: rest) pos) (TB F W fun en S => (fa en S).bind fun c S1 => if c = true then .ok true S1 else fb en S1) := by
  refine ⟨fun wh pins s st H Q I p => PyProof.Rows.isTrue_or (thn (ha.run pins s st H _ I (TB.bind (g := fun en c S1 => if c = true then .ok true S1 else fb en S1) p)) fun c s1 ⟨H1, I1, en, J1, r1, S1, e1, w1, p1⟩ => ?_)⟩
  cases c with
  | false => exact hb.run wh pins s1 st H1 Q I1 ⟨en, S1, J1, r1, w1, e1, p1⟩
  | true => exact ⟨H1, I1, p1 H1 J1 r1 w1 Le.refl⟩
theorem tst_not {fa : Enm → Store → Res Bool} (ha : PT X a (TB F W fa)) : PT X (.UnaryOp .Not a pos) (TB F W fun en S => (fa en S).bind fun c S1 => .ok (!c) S1) :=
  ⟨fun pins s st H Q I p => PyProof.Rows.isTrue_not (ha.run pins s st H (fun c H1 => Q (!c) H1) I (by
    obtain ⟨en, S, J, r, w, e, p⟩ := TB.bind (g := fun en c S1 => .ok (!c) S1) p
    refine ⟨en, S, J, r, w, e, ?_⟩
    skip
    cases h : fa en S with
    | ok c S1 => rw [h] at p; exact fun H' J' r' a l => let ⟨en', J2, r2, S2, e2, w2, p2⟩ := p H' J' r' a l; p2 H' J2 r2 w2 Le.refl
    | exc c fs S1 => rw [h] at p; exact p
    | stk => rw [h] at p; exact p))⟩
theorem sd_ife {fc : Enm → Store → Res Bool} {fa fb : Enm → Store → Res Val} (hc : PT X c (TB F W fc)) (ha : PE X a (TT F W fa)) (hb : PE X b (TT F W fb)) :
    PE X (.IfExp c a b pos) (TT F W fun en S => (fc en S).bind fun d S1 => if d = true then fa en S1 else fb en S1) := by
  refine ⟨fun pins s st H Q I p => wpAny_IfExp (thn (hc.run pins s st H _ I (TT.ofB (g := fun en d S1 => if d = true then fa en S1 else fb en S1) p)) fun d s1 ⟨H1, I1, en, J1, r1, S1, e1, w1, p1⟩ => ?_)⟩
  cases d with
  | true => exact ha.run pins s1 st H1 Q I1 ⟨en, S1, J1, r1, w1, e1, p1⟩
  | false => exact hb.run pins s1 st H1 Q I1 ⟨en, S1, J1, r1, w1, e1, p1⟩
end
end GW
/-! Core 4: the core text and what it computes. -/
namespace GW
open PySem L2

inductive Tg where
  | one (i : Nat) | tup (is : List Nat)
inductive Blt where
  | len | int | abs | max2 | min2 | maxL | minL | str | repr | tuple | list | listR | sum | all | any
inductive Mth where
  | append | pop | popAt | extend | reverse | clear | upper | join | sindex | split | partition
mutual
inductive E where
  | cst (v : Val) | var (i : Nat) | glo (x : Str) (v : Val)
  | bin (o : Bop) (a b : E) | neg (a : E) | not (a : E) | and (a b : E) | or (a b : E)
  | cmp (o : Cop) (a b : E) | chn (o p : Cop) (a b c : E) | ife (c a b : E)
  | isi (a : E) (ts : List String)
  | idx (a i : E) | slc (a : E) (lo hi : Po) | slcR (a : E) (lo hi : Po)
  | tpd (es : Es) | lsd (b : Bool) (es : Es) | dcd (ks vs : Es)
  | blt (f : Blt) (es : Es) | call (f : Nat) (es : Es) | callv (i : Nat) (es : Es)
  | mth (m : Mth) (o : E) (es : Es)
  | lc (b : Bool) (t : Tg) (it : It) (cs : Es) (e : E)
  | efl (p c j : Nat)
  | callD (f : Nat) (es : Es) (ds : List Val) | eisi (p c : Nat) (ks : List Nat) (b : Bool)
inductive Es where
  | nil | cons (e : E) (es : Es)
inductive Po where
  | no | yes (e : E)
inductive It where
  | val (e : E) | rng1 (e : E) | rng2 (a b : E) | enm (e : E) | zip (a b : E) | rev (e : E)
end
mutual
inductive C where
  | set (i : Nat) (e : E) | tset (is : List Nat) (e : E) | par (i j : Nat) (a b : E) | sset (a i e : E)
  | exp (e : E) | ret (e : E) | retN | ife (c : E) (a b : Cs) | whl (c : E) (b : Cs) | forr (t : Tg) (it : It) (b : Cs)
  | rai (c : Nat) (es : Es) | tri (b : Cs) (hs : Hs) | pas
inductive Cs where
  | nil | cons (c : C) (cs : Cs)
inductive Hs where
  | nil | cons (c : Nat) (i : Option Nat) (b : Cs) (hs : Hs)
end

structure Om where
  call : Nat → List Val → Store → Res Val
  fu : Nat
  nf : Nat
  nc : Nat
  sub : Nat → Nat → Bool

def oV (o : Option Val) (S : Store) : Res Val := match o with
  | some v => .ok v S
  | none => .stk
def getS (en : Enm) (i : Nat) (S : Store) : Res Val := match en[i]? with
  | some (some v) => .ok v S
  | _ => .stk
def negV (x : Val) (S : Store) : Res Val := match x with
  | .int i => .ok (.int (-i)) S
  | _ => .stk
def tyN (S : Store) (x : Val) : Option String := match x with
  | .non => some "NoneType"
  | .bl _ => some "bool"
  | .int _ => some "int"
  | .str _ => some "str"
  | .tup _ => some "tuple"
  | .lst _ => some "list"
  | .ref l => (match S[l]? with
    | some (.lst _) => some "list"
    | some (.dct _ _) => some "dict"
    | none => none)
  | _ => none
def isiE (S : Store) (x : Val) (ts : List String) : Option Bool := match tyN S x with
  | some t => (match ts with
    | [u] => kitB t u
    | [u, u'] => (match kitB t u with
      | some true => some true
      | some false => kitB t u'
      | none => none)
    | _ => none)
  | none => none
def ixV (xs : List Val) (i : Int) : Option Val := L2.atI xs i
def idxV (x i : Val) (S : Store) : Res Val := match i with
  | .int i => (match x with
    | .tup xs => oV (ixV xs i) S
    | .lst xs => oV (ixV xs i) S
    | .scr xs => oV (ixV xs i) S
    | .str z => if z.length ≤ sizeLine then (match L2.atI z.cps.toList i with
      | some c => .ok (.str ⟨#[c]⟩) S
      | none => .stk) else .stk
    | .ref l => (match S[l]? with
      | some (.lst xs) => oV (ixV xs i) S
      | _ => .stk)
    | _ => .stk)
  | _ => .stk
def cutL (xs : List Val) (lo hi : Option Int) : List Val := (xs.drop (HT.sIx xs.length 0 lo)).take (HT.sIx xs.length xs.length hi - HT.sIx xs.length 0 lo)
def slcV (x : Val) (lo hi : Option Int) (S : Store) : Res Val := match x with
  | .tup xs => .ok (.tup (cutL xs lo hi)) S
  | .lst xs => .ok (.lst (cutL xs lo hi)) S
  | .str z => if z.length ≤ sizeLine then .ok (.str (cutS z lo hi)) S else .stk
  | .ref l => (match S[l]? with
    | some (.lst xs) => .ok (.lst (cutL xs lo hi)) S
    | _ => .stk)
  | _ => .stk
def slcRV (x : Val) (lo hi : Option Int) (S : Store) : Res Val := match x with
  | .lst xs => newR (cutL xs lo hi) S
  | .ref l => (match S[l]? with
    | some (.lst xs) => newR (cutL xs lo hi) S
    | _ => .stk)
  | x => slcV x lo hi S
def mkL (b : Bool) (xs : List Val) (S : Store) : Res Val := if xs.length ≤ sizeLine then (if b = true then .ok (.ref S.length) (S ++ [.lst xs]) else .ok (.lst xs) S) else .stk
def mkT (xs : List Val) (S : Store) : Res Val := if xs.length ≤ sizeLine then .ok (.tup xs) S else .stk
def keyV (x : Val) : Option Key := match x with
  | .int i => some (.inl i)
  | .str z => some (.inr z)
  | _ => none
def mkD (ks vs : List Val) (S : Store) : Res Val := match ks, vs with
  | [], [] => .ok (.ref S.length) (S ++ [.dct [] []])
  | [k], [v] => (match keyV k with
    | some k => .ok (.ref S.length) (S ++ [.dct [k] [v]])
    | none => .stk)
  | _, _ => .stk
def ints? : List Val → Option (List Int)
  | [] => some []
  | .int i :: r => (ints? r).map (i :: ·)
  | _ => none
def bls? : List Val → Option (List Bool)
  | [] => some []
  | .bl i :: r => (bls? r).map (i :: ·)
  | _ => none
def strs? : List Val → Option (List Str)
  | [] => some []
  | .str i :: r => (strs? r).map (i :: ·)
  | _ => none
def lenV (x : Val) (S : Store) : Res Val := match x with
  | .tup xs => .ok (.int xs.length) S
  | .lst xs => .ok (.int xs.length) S
  | .scr xs => .ok (.int xs.length) S
  | .str z => if z.length ≤ sizeLine then .ok (.int z.length) S else .stk
  | .ref l => (match S[l]? with
    | some (.lst xs) => .ok (.int xs.length) S
    | _ => .stk)
  | _ => .stk
def intV (x : Val) (S : Store) : Res Val := match x with
  | .int i => .ok (.int i) S
  | .bl b => .ok (.int (if b = true then 1 else 0)) S
  | .str z => (match PySem.intText? z with
    | some n => if z.length ≤ 640 then .ok (.int n) S else .stk
    | none => .stk)
  | _ => .stk
def strV (x : Val) (S : Store) : Res Val := match x with
  | .int i => if i.natAbs.log2 < 1920 then .ok (.str (Str.ofString (toString i))) S else .stk
  | _ => .stk
def reprV (x : Val) (S : Store) : Res Val := match toD S 12 x with
  | some d => if (d.showable = true ∨ big d = true) ∧ d.depth ≤ 64 ∧ d.shown.length ≤ sizeLine then .ok (.str d.shown) S else .stk
  | none => .stk
def tupleV (x : Val) (S : Store) : Res Val := match x with
  | .tup xs => .ok (.tup xs) S
  | .lst xs => .ok (.tup xs) S
  | .ref l => (match S[l]? with
    | some (.lst xs) => .ok (.tup xs) S
    | _ => .stk)
  | _ => .stk
def listV (b : Bool) (x : Val) (S : Store) : Res Val := match x with
  | .tup xs => mkL b xs S
  | .lst xs => mkL b xs S
  | .ref l => (match S[l]? with
    | some (.lst xs) => mkL b xs S
    | _ => .stk)
  | _ => .stk
def sumV (x : Val) (S : Store) : Res Val := match seqL S x with
  | some xs => (match ints? xs with
    | some is => .ok (.int is.sum) S
    | none => .stk)
  | none => .stk
def maxV (x : Val) (S : Store) : Res Val := match seqL S x with
  | some xs => (match ints? xs with
    | some (i :: is) => .ok (.int (is.foldl max i)) S
    | _ => .stk)
  | none => .stk
def minV (x : Val) (S : Store) : Res Val := match seqL S x with
  | some xs => (match ints? xs with
    | some (i :: is) => .ok (.int (is.foldl min i)) S
    | _ => .stk)
  | none => .stk
def allV (x : Val) (S : Store) : Res Val := match seqL S x with
  | some xs => (match bls? xs with
    | some bs => .ok (.bl (bs.all id)) S
    | none => .stk)
  | none => .stk
def anyV (x : Val) (S : Store) : Res Val := match seqL S x with
  | some xs => (match bls? xs with
    | some bs => .ok (.bl (bs.any id)) S
    | none => .stk)
  | none => .stk
def bltV (f : Blt) (xs : List Val) (S : Store) : Res Val := match f, xs with
  | .len, [x] => lenV x S
  | .int, [x] => intV x S
  | .abs, [.int i] => .ok (.int (if i < 0 then -i else i)) S
  | .max2, [.int i, .int j] => .ok (.int (if j > i then j else i)) S
  | .min2, [.int i, .int j] => .ok (.int (if j < i then j else i)) S
  | .maxL, [x] => maxV x S
  | .minL, [x] => minV x S
  | .str, [x] => strV x S
  | .repr, [x] => reprV x S
  | .tuple, [x] => tupleV x S
  | .list, [x] => listV false x S
  | .listR, [x] => listV true x S
  | .sum, [x] => sumV x S
  | .all, [x] => allV x S
  | .any, [x] => anyV x S
  | _, _ => .stk
def wrL (l : Nat) (xs : List Val) (v : Val) (S : Store) : Res Val := .ok v (S.set l (.lst xs))
def lstAt (S : Store) (o : Val) : Option (Nat × List Val) := match o with
  | .ref l => (match S[l]? with
    | some (.lst xs) => some (l, xs)
    | _ => none)
  | _ => none
def strAt (o : Val) : Option Str := match o with
  | .str z => some z
  | _ => none
def mthL (m : Mth) (l : Nat) (zs : List Val) (xs : List Val) (S : Store) : Res Val := match m, xs with
  | .append, [y] => if zs.length < sizeLine then wrL l (zs ++ [y]) .non S else .stk
  | .pop, [] => (match zs[zs.length - 1]? with
    | some y => wrL l zs.dropLast y S
    | none => .stk)
  | .popAt, [.int i] => (match PySem.seqIndex? i zs.length with
    | some k => (match zs[k]? with
      | some y => if -(2 ^ 63) ≤ i ∧ i < 2 ^ 63 then wrL l (zs.eraseIdx k) y S else .stk
      | none => .stk)
    | none => .stk)
  | .extend, [y] => (match seqL S y with
    | some ys => if zs.length + ys.length ≤ sizeLine then wrL l (zs ++ ys) .non S else .stk
    | none => .stk)
  | .reverse, [] => wrL l zs.reverse .non S
  | .clear, [] => wrL l [] .non S
  | _, _ => .stk
def mthS (m : Mth) (z : Str) (xs : List Val) (S : Store) : Res Val := match m, xs with
  | .upper, [] => if z.length ≤ 5592405 then .ok (.str (Txt.upper z)) S else .stk
  | .join, [y] => (match seqL S y with
    | some ys => (match strs? ys with
      | some ts => if (ts.map Str.length).sum + ts.length * z.length ≤ 16777216 then .ok (.str (Txt.join z ts)) S else .stk
      | none => .stk)
    | none => .stk)
  | .sindex, [.str b] => (match Builtin.Str.occurrences z b 0 z.length 1 with
    | i :: _ => .ok (.int (i : Nat)) S
    | [] => .stk)
  | .split, [.str b] => if (b.length == 0) = false ∧ z.length + 2 ≤ sizeLine then .ok (.lst ((Txt.split z b).map Val.str)) S else .stk
  | .partition, [.str b] => if (b.length == 0) = false ∧ z.length ≤ sizeLine then .ok (.tup [.str (Txt.partition z b).1, .str (Txt.partition z b).2.1, .str (Txt.partition z b).2.2]) S else .stk
  | _, _ => .stk
def Mth.isL (m : Mth) : Bool := match m with
  | .append | .pop | .popAt | .extend | .reverse | .clear => true
  | _ => false
def tyOk (m : Mth) (o : Val) (S : Store) : Bool := if m.isL = true then (lstAt S o).isSome else (strAt o).isSome
def mthV (m : Mth) (o : Val) (xs : List Val) (S : Store) : Res Val := if m.isL = true then (match lstAt S o with
  | some (l, zs) => mthL m l zs xs S
  | none => .stk) else (match strAt o with
  | some z => mthS m z xs S
  | none => .stk)
def putT (t : Tg) (v : Val) (en : Enm) : Option Enm := match t with
  | .one i => some (en.set i (some v))
  | .tup is => (match v with
    | .tup xs => if xs.length = is.length then some ((is.zip xs).foldl (fun e p => e.set p.1 (some p.2)) en) else none
    | .lst xs => if xs.length = is.length then some ((is.zip xs).foldl (fun e p => e.set p.1 (some p.2)) en) else none
    | _ => none)
def live (S : Store) (cs : List Val) (xs : List (List Val)) : Prop := ∀ p ∈ cs.zip xs, match p.1 with
  | .ref l => S[l]? = some (.lst p.2)
  | _ => True
def lstI (S : Store) (v : Val) : Option (List Val) := match v with
  | .lst xs => some xs
  | .scr xs => some xs
  | .ref l => (match S[l]? with
    | some (.lst xs) => some xs
    | _ => none)
  | _ => none
def tupI (v : Val) : Option (List Val) := match v with
  | .tup xs => some xs
  | _ => none
def strI (v : Val) : Option (List Val) := match v with
  | .str z => some (z.cps.toList.map fun c => .str ⟨#[c]⟩)
  | _ => none
def items (S : Store) (v : Val) : Option (List Val) := match lstI S v with
  | some xs => some xs
  | none => (match tupI v with
    | some xs => some xs
    | none => strI v)
structure Wk where
  cs : List Val
  xs : List (List Val)
  its : List Val
def zipW (v u : Val) (S : Store) : Res Wk := match lstI S v, lstI S u with
  | some xs, some ys => .ok ⟨[v, u], [xs, ys], (xs.zip ys).map fun p => .tup [p.1, p.2]⟩ S
  | some xs, none => (match tupI u with
    | some ys => .ok ⟨[v], [xs], (xs.zip ys).map fun p => .tup [p.1, p.2]⟩ S
    | none => .stk)
  | none, some ys => (match tupI v with
    | some xs => .ok ⟨[u], [ys], (xs.zip ys).map fun p => .tup [p.1, p.2]⟩ S
    | none => .stk)
  | none, none => (match tupI v, tupI u with
    | some xs, some ys => .ok ⟨[], [], (xs.zip ys).map fun p => .tup [p.1, p.2]⟩ S
    | _, _ => .stk)
def enmW (v : Val) (S : Store) : Res Wk := match lstI S v with
  | some xs => .ok ⟨[v], [xs], xs.mapIdx fun (k : Nat) x => .tup [.int k, x]⟩ S
  | none => (match tupI v with
    | some xs => .ok ⟨[], [], xs.mapIdx fun (k : Nat) x => .tup [.int k, x]⟩ S
    | none => .stk)
def revW (v : Val) (S : Store) : Res Wk := match lstI S v with
  | some xs => .ok ⟨[v], [xs], xs.reverse⟩ S
  | none => (match tupI v with
    | some xs => .ok ⟨[], [], xs.reverse⟩ S
    | none => .stk)
def rngL (lo hi : Int) : List Val := (List.range (hi - lo).toNat).map fun (k : Nat) => .int (lo + k)
def inR (i : Int) : Bool := decide (-(2 ^ 62) ≤ i) && decide (i < 2 ^ 62)
def rng1W (v : Val) (S : Store) : Res Wk := match v with
  | .int j => if inR j = true then .ok ⟨[], [], rngL 0 j⟩ S else .stk
  | _ => .stk
def rng2W (v u : Val) (S : Store) : Res Wk := match v, u with
  | .int i, .int j => if inR i = true ∧ inR j = true then .ok ⟨[], [], rngL i j⟩ S else .stk
  | _, _ => .stk
def Res.noX {α : Type} (r : Res α) : Res α := match r with
  | .ok a S => .ok a S
  | _ => .stk
open Classical in
noncomputable def lcF (cs : List Val) (xs : List (List Val)) (t : Tg) (test : Enm → Store → Res Bool) (elt : Enm → Store → Res Val) (en : Enm) : List Val → List Val → Store → Res (List Val)
  | [], acc, S => if live S cs xs then .ok acc S else .stk
  | v :: r, acc, S => if live S cs xs then (match putT t v en with
    | some en' => (test en' S).noX.bind fun b S1 => if b = true then (elt en' S1).noX.bind fun y S2 => if acc.length < sizeLine then lcF cs xs t test elt en r (acc ++ [y]) S2 else .stk else lcF cs xs t test elt en r acc S1
    | none => .stk) else .stk
mutual
noncomputable def evE (O : Om) : E → Enm → Store → Res Val
  | .cst v, _, S => .ok v S
  | .var i, en, S => getS en i S
  | .glo _ v, _, S => .ok v S
  | .bin o a b, en, S => (evE O a en S).bind fun x S1 => (evE O b en S1).bind fun y S2 => bopV o x y S2
  | .neg a, en, S => (evE O a en S).bind negV
  | .not a, en, S => (evE O a en S).bind fun x S1 => (truR x S1).bind fun c S2 => .ok (.bl (!c)) S2
  | .and a b, en, S => (evE O a en S).bind fun x S1 => (truR x S1).bind fun c S2 => if c = true then evE O b en S2 else .ok x S2
  | .or a b, en, S => (evE O a en S).bind fun x S1 => (truR x S1).bind fun c S2 => if c = true then .ok x S2 else evE O b en S2
  | .cmp o a b, en, S => (evE O a en S).bind fun x S1 => (evE O b en S1).bind fun y S2 => optB S2 (cmpE o x y S2)
  | .chn o p a b c, en, S => (evE O a en S).bind fun x S1 => (evE O b en S1).bind fun y S2 => match cmpE o x y S2 with
    | some true => (evE O c en S2).bind fun z S3 => optB S3 (cmpE p y z S3)
    | some false => .ok (.bl false) S2
    | none => .stk
  | .ife c a b, en, S => (evE O c en S).bind fun x S1 => (truR x S1).bind fun d S2 => if d = true then evE O a en S2 else evE O b en S2
  | .isi a ts, en, S => (evE O a en S).bind fun x S1 => optB S1 (isiE S1 x ts)
  | .idx a i, en, S => (evE O a en S).bind fun x S1 => (evE O i en S1).bind fun y S2 => idxV x y S2
  | .slc a lo hi, en, S => (evE O a en S).bind fun x S1 => (evP O lo en S1).bind fun l S2 => (evP O hi en S2).bind fun h S3 => slcV x l h S3
  | .slcR a lo hi, en, S => (evE O a en S).bind fun x S1 => (evP O lo en S1).bind fun l S2 => (evP O hi en S2).bind fun h S3 => slcRV x l h S3
  | .tpd es, en, S => (evs O es en S).bind fun xs S1 => mkT xs S1
  | .lsd b es, en, S => (evs O es en S).bind fun xs S1 => mkL b xs S1
  | .dcd ks vs, en, S => (evs O ks en S).bind fun ks S1 => (evs O vs en S1).bind fun vs S2 => mkD ks vs S2
  | .blt f es, en, S => (evs O es en S).bind fun xs S1 => bltV f xs S1
  | .call f es, en, S => (evs O es en S).bind fun xs S1 => O.call f xs S1
  | .callv i es, en, S => match en[i]? with
    | some (some (.fn f)) => if f < O.nf then (evs O es en S).bind fun xs S1 => O.call f xs S1 else .stk
    | _ => .stk
  | .mth m o es, en, S => (evE O o en S).bind fun x S1 => if tyOk m x S1 = true then (evs O es en S1).bind fun xs S2 => mthV m x xs S2 else .stk
  | .lc b t it cs e, en, S => (evI O it en S).bind fun wk S1 => (lcF wk.cs wk.xs t (fun en' S' => evC O cs en' S') (fun en' S' => evE O e en' S') en wk.its [] S1).bind fun ys S2 => mkL b ys S2
  | .efl p c j, en, S => match en[p]? with
    | some (some (.exc c' fs)) => if c' = c then oV fs[j]? S else .stk
    | _ => .stk
  | .callD f es ds, en, S => (evs O es en S).bind fun xs S1 => O.call f (xs ++ ds) S1
  | .eisi p c ks _, en, S => match en[p]? with
    | some (some (.exc c' fs)) => if c' = c then .ok (.bl (ks.any fun k => O.sub c k)) S else .stk
    | _ => .stk
noncomputable def evs (O : Om) : Es → Enm → Store → Res (List Val)
  | .nil, _, S => .ok [] S
  | .cons e es, en, S => (evE O e en S).bind fun x S1 => (evs O es en S1).bind fun xs S2 => .ok (x :: xs) S2
noncomputable def evP (O : Om) : Po → Enm → Store → Res (Option Int)
  | .no, _, S => .ok none S
  | .yes e, en, S => (evE O e en S).bind fun x S1 => match x with
    | .int i => .ok (some i) S1
    | _ => .stk
noncomputable def evC (O : Om) : Es → Enm → Store → Res Bool
  | .nil, _, S => .ok true S
  | .cons e es, en, S => (evE O e en S).bind fun x S1 => (truR x S1).bind fun c S2 => if c = true then evC O es en S2 else .ok false S2
noncomputable def evI (O : Om) : It → Enm → Store → Res Wk
  | .val e, en, S => (evE O e en S).bind fun v S1 => match items S1 v with
    | some xs => .ok ⟨[v], [xs], xs⟩ S1
    | none => .stk
  | .rng1 e, en, S => (evE O e en S).bind rng1W
  | .rng2 a b, en, S => (evE O a en S).bind fun v S1 => (evE O b en S1).bind fun u S2 => rng2W v u S2
  | .enm e, en, S => (evE O e en S).bind fun v S1 => enmW v S1
  | .zip a b, en, S => (evE O a en S).bind fun v S1 => (evE O b en S1).bind fun u S2 => zipW v u S2
  | .rev e, en, S => (evE O e en S).bind fun v S1 => revW v S1
end
noncomputable def evB (O : Om) (e : E) (en : Enm) (S : Store) : Res Bool := (evE O e en S).bind truR

inductive Fl where
  | nx (en : Enm) (S : Store) | rt (v : Val) (S : Store) | ex (c : Nat) (fs : List Val) (en : Enm) (S : Store) | stk
def Fl.then (f : Fl) (g : Enm → Store → Fl) : Fl := match f with
  | .nx en S => g en S
  | .rt v S => .rt v S
  | .ex c fs en S => .ex c fs en S
  | .stk => .stk
@[simp] theorem Fl.then_nx (en : Enm) (S : Store) (g : Enm → Store → Fl) : (Fl.nx en S).then g = g en S := rfl
@[simp] theorem Fl.then_rt (v : Val) (S : Store) (g : Enm → Store → Fl) : (Fl.rt v S).then g = .rt v S := rfl
@[simp] theorem Fl.then_ex (c : Nat) (fs : List Val) (en : Enm) (S : Store) (g : Enm → Store → Fl) : (Fl.ex c fs en S).then g = .ex c fs en S := rfl
@[simp] theorem Fl.then_stk (g : Enm → Store → Fl) : Fl.stk.then g = .stk := rfl
def Res.to {α : Type} (r : Res α) (en : Enm) (g : α → Store → Fl) : Fl := match r with
  | .ok v S => g v S
  | .exc c fs S => .ex c fs en S
  | .stk => .stk
@[simp] theorem Res.to_ok {α : Type} (a : α) (S : Store) (en : Enm) (g : α → Store → Fl) : (Res.ok a S).to en g = g a S := rfl
@[simp] theorem Res.to_exc {α : Type} (c : Nat) (fs : List Val) (S : Store) (en : Enm) (g : α → Store → Fl) : (Res.exc c fs S : Res α).to en g = .ex c fs en S := rfl
@[simp] theorem Res.to_stk {α : Type} (en : Enm) (g : α → Store → Fl) : (Res.stk : Res α).to en g = .stk := rfl
def Fl.noX (f : Fl) : Fl := match f with
  | .ex _ _ _ _ => .stk
  | f => f
def Fl.out (f : Fl) (n i : Nat) : Fl := match f with
  | .nx en S => .nx ((en.take n).set i none) S
  | .rt v S => .rt v S
  | _ => .stk
def setSub (x i v : Val) (S : Store) : Option Store := match x, i with
  | .ref l, .int k => (match S[l]? with
    | some (.lst xs) => (L2.ixN xs.length k).map fun j => S.set l (.lst (xs.set j v))
    | _ => none)
  | _, _ => none
noncomputable def whlF (t : Enm → Store → Res Bool) (b : Enm → Store → Fl) : Nat → Enm → Store → Fl
  | 0, _, _ => .stk
  | n + 1, en, S => (t en S).to en fun c S1 => if c = true then (b en S1).then fun en' S' => whlF t b n en' S' else .nx en S1
open Classical in
noncomputable def forF (cs : List Val) (xs : List (List Val)) (t : Tg) (b : Enm → Store → Fl) : List Val → Enm → Store → Fl
  | [], en, S => if live S cs xs then .nx en S else .stk
  | v :: r, en, S => if live S cs xs then (match putT t v en with
    | some en' => (b en' S).then fun en2 S2 => forF cs xs t b r en2 S2
    | none => .stk) else .stk
mutual
noncomputable def exC (O : Om) : C → Enm → Store → Fl
  | .set i e, en, S => (evE O e en S).to en fun v S1 => .nx (en.set i (some v)) S1
  | .tset is e, en, S => (evE O e en S).to en fun v S1 => match putT (.tup is) v en with
    | some en' => .nx en' S1
    | none => .stk
  | .par i j a b, en, S => (evE O a en S).to en fun x S1 => (evE O b en S1).to en fun y S2 => .nx ((en.set i (some x)).set j (some y)) S2
  | .sset a i e, en, S => (evE O e en S).to en fun v S1 => (evE O a en S1).to en fun x S2 => (evE O i en S2).to en fun k S3 => match setSub x k v S3 with
    | some S4 => .nx en S4
    | none => .stk
  | .exp e, en, S => (evE O e en S).to en fun _ S1 => .nx en S1
  | .ret e, en, S => (evE O e en S).to en fun v S1 => .rt v S1
  | .retN, _, S => .rt .non S
  | .ife c a b, en, S => (evB O c en S).to en fun d S1 => if d = true then exS O a en S1 else exS O b en S1
  | .whl c b, en, S => whlF (fun en S => evB O c en S) (fun en S => exS O b en S) O.fu en S
  | .forr t it b, en, S => (evI O it en S).to en fun wk S1 => forF wk.cs wk.xs t (fun en S => exS O b en S) wk.its en S1
  | .rai c es, en, S => (evs O es en S).to en fun xs S1 => .ex c xs.reverse en S1
  | .tri b hs, en, S => match exS O b en S with
    | .ex c fs en' S' => if c < O.nc then exH O hs c fs en' S' else .stk
    | o => o
  | .pas, en, S => .nx en S
noncomputable def exS (O : Om) : Cs → Enm → Store → Fl
  | .nil, en, S => .nx en S
  | .cons c cs, en, S => (exC O c en S).then fun en' S' => exS O cs en' S'
noncomputable def exH (O : Om) : Hs → Nat → List Val → Enm → Store → Fl
  | .nil, c, fs, en, S => .ex c fs en S
  | .cons k i b hs, c, fs, en, S => if O.sub c k = true then (match i with
    | some i => if c = k then (exS O b (en.set i none ++ [some (.exc c fs)]) S).out en.length i else .stk
    | none => (exS O b en S).noX) else exH O hs c fs en S
end
structure Df where
  np : Nat
  nn : Nat
  body : Cs
def start0 (d : Df) (vs : List Val) : Enm := vs.map some ++ List.replicate (d.nn - vs.length) none
noncomputable def runD (O : Om) (d : Df) (vs : List Val) (S : Store) : Res Val := if vs.length = d.np then (match exS O d.body (start0 d vs) S with
  | .nx _ S' => .ok .non S'
  | .rt v S' => .ok v S'
  | .ex c fs _ S' => .exc c fs S'
  | .stk => .stk) else .stk
structure Pg where
  defs : List Df
  nc : Nat
  sub : Nat → Nat → Bool
noncomputable def callN (P : Pg) (fu : Nat) : Nat → Nat → List Val → Store → Res Val
  | 0, _, _, _ => .stk
  | n + 1, f, vs, S => match P.defs[f]? with
    | some d => runD ⟨callN P fu n, fu, P.defs.length, P.nc, P.sub⟩ d vs S
    | none => .stk
noncomputable def om (P : Pg) (fu n : Nat) : Om := ⟨callN P fu n, fu, P.defs.length, P.nc, P.sub⟩
end GW
/-! Core 5: expressions. -/
namespace GW
open PySem L2

/-! ### the syntax's small looks -/
def okX (x : Expr) : Bool := match x with
  | .Starred .. => false
  | .Set .. => false
  | .Slice .. => false
  | _ => true
def okA (x : Expr) : Bool := match x with
  | .Call (.Name id _) [] [] _ => id != "super"
  | _ => true
def okSw (x : Expr) : Bool := match x with
  | .ListComp .. => false
  | .SetComp .. => false
  | .DictComp .. => false
  | _ => true
def okTst (x : Expr) : Bool := match x with
  | .UnaryOp .Not _ _ => false
  | .BoolOp .. => false
  | .IfExp .. => false
  | .Compare .. => false
  | _ => true
theorem okX_star {x : Expr} (h : okX x = true) (es : List Expr) (env : Env) : starEach (x :: es) env = (false, eval x env) :: starEach es env := by
  cases x <;> first | rfl | (cases h; done)
theorem okX_mark {x : Expr} (h : okX x = true) (op : CmpOp) : behindInMarks op x = false := by
  cases x <;> first | rfl | (cases h; done)
theorem okX_fold {x : Expr} (h : okX x = true) (env : Env) (v : Value) : foldedSetIterable x env v = pure v := by
  cases x <;> first | rfl | (cases h; done)
theorem okX_ix {x : Expr} (h : okX x = true) : PlainIx x := by
  intro o i
  cases x <;> first | rfl | (cases h; done)
theorem okSw_no {x : Expr} (h : okSw x = true) (tg : Option Expr) (n : Nat) (env : Env) : swapsWith x tg n env = pure false := by
  cases x <;> first | rfl | (cases h; done)
theorem okTst_is {x : Expr} (h : okTst x = true) (env : Env) (whole : Sem Value) : isTrue x env whole = (do let v ← whole; standAt x.pos; holding [v] (truthy v)) := by
  cases x <;> first
    | rfl
    | (cases h; done)
    | (rename_i op a p; cases op <;> first | rfl | (cases h; done))
theorem okA_base {x : Expr} (h : okA x = true) (name : Str) (env : Env) : attributeBase x name env (eval x env) = eval x env := by
  cases x with
  | Call f as ks p =>
    cases f with
    | Name id p1 =>
      cases as with
      | nil =>
        cases ks with
        | nil =>
          have h' : (id != "super") = true := h
          simp only [attributeBase, h', Bool.true_or, if_true]
        | cons k ks => rfl
      | cons a as => rfl
    | _ => rfl
  | _ => rfl

section
variable {F : Fx} {X : Cx} {W : WS} {pins : List (Addr × Obj)} {s : Shared} {st : L2.St} {H J H1 J1 : Hp} {r r1 : List Addr} {S : Store}
/-! ### argument lists -/
def PoA (F : Fx) (W : WS) (st : L2.St) (H J : Hp) (r : List Addr) (x : Res (List Val)) (Q : List V → Hp → Prop) : Prop := match x with
  | .ok vs S' => ∀ H' J' r' ws, Wo F H' J' r' S' → Le H J r H' J' r' → Reps F J' r' vs ws → Q ws H'
  | .exc c fs S' => ∀ H' J' r' d ws, Wo F H' J' r' S' → Le H J r H' J' r' → J' d = some (.xd ((F.cf c).zip ws)) → Reps F J' r' fs ws → W.w (.ref (F.ca c)) (some d) st H'
  | .stk => False
def TAA (F : Fx) (W : WS) (f : Enm → Store → Res (List Val)) : L2.TA := fun st H Q => ∃ en S J r, Wo F H J r S ∧ EnW F W J r en st ∧ PoA F W st H J r (f en S) Q
theorem PoA.le {x : Res (List Val)} {Q : List V → Hp → Prop} (l : Le H J r H1 J1 r1) (p : PoA F W st H J r x Q) : PoA F W st H1 J1 r1 x Q := by
  cases x with
  | ok v S => exact fun H' J' r' w a b c => p H' J' r' w a (l.trans b) c
  | exc c fs S => exact fun H' J' r' d ws a b e f => p H' J' r' d ws a (l.trans b) e f
  | stk => exact p
theorem TAA.ofE {f : Enm → Store → Res Val} {g : Enm → Val → Store → Res (List Val)} {Q : List V → Hp → Prop} (p : TAA F W (fun en S => (f en S).bind (g en)) st H Q) :
    TT F W f st H fun v H1 => ∃ en J1 r1 S1 x, EnW F W J1 r1 en st ∧ Wo F H1 J1 r1 S1 ∧ Rep F J1 r1 x v ∧ PoA F W st H1 J1 r1 (g en x S1) Q := by
  obtain ⟨en, S, J, r, w, e, p⟩ := p
  refine ⟨en, S, J, r, w, e, ?_⟩
  dsimp only at p
  cases h : f en S with
  | ok v S1 =>
    rw [h] at p
    exact fun H' J' r' vw a b c => ⟨en, J', r', S1, v, e.le b, a, c, PoA.le b p⟩
  | exc c fs S1 => rw [h] at p; exact p
  | stk => rw [h] at p; exact p
theorem TT.ofA {f : Enm → Store → Res (List Val)} {g : Enm → List Val → Store → Res Val} {Q : VK} (p : TT F W (fun en S => (f en S).bind (g en)) st H Q) :
    TAA F W f st H fun vs H1 => ∃ en J1 r1 S1 xs, EnW F W J1 r1 en st ∧ Wo F H1 J1 r1 S1 ∧ Reps F J1 r1 xs vs ∧ PoE F W st H1 J1 r1 (g en xs S1) Q := by
  obtain ⟨en, S, J, r, w, e, p⟩ := p
  refine ⟨en, S, J, r, w, e, ?_⟩
  dsimp only at p
  cases h : f en S with
  | ok v S1 =>
    rw [h] at p
    exact fun H' J' r' vw a b c => ⟨en, J', r', S1, v, e.le b, a, c, PoE.le b p⟩
  | exc c fs S1 => rw [h] at p; exact p
  | stk => rw [h] at p; exact p
theorem TAA.bind {f : Enm → Store → Res (List Val)} {g : Enm → List Val → Store → Res (List Val)} {Q : List V → Hp → Prop} (p : TAA F W (fun en S => (f en S).bind (g en)) st H Q) :
    TAA F W f st H fun vs H1 => ∃ en J1 r1 S1 xs, EnW F W J1 r1 en st ∧ Wo F H1 J1 r1 S1 ∧ Reps F J1 r1 xs vs ∧ PoA F W st H1 J1 r1 (g en xs S1) Q := by
  obtain ⟨en, S, J, r, w, e, p⟩ := p
  refine ⟨en, S, J, r, w, e, ?_⟩
  dsimp only at p
  cases h : f en S with
  | ok v S1 =>
    rw [h] at p
    exact fun H' J' r' vw a b c => ⟨en, J', r', S1, v, e.le b, a, c, PoA.le b p⟩
  | exc c fs S1 => rw [h] at p; exact p
  | stk => rw [h] at p; exact p
variable {a b c : Expr} {es : List Expr} {pos : Pos}
theorem sa_nil : PA X [] (TAA F W fun _ S => .ok [] S) :=
  ⟨fun ps pins s st H Q I ⟨en, S, J, r, w, e, p⟩ => pa_nil.run ps pins s st H Q I (p H J r [] w Le.refl .nil)⟩
theorem sa_cons {fa : Enm → Store → Res Val} {fs : Enm → Store → Res (List Val)} (hx : okX a = true) (ha : PE X a (TT F W fa)) (hs : PA X es (TAA F W fs)) :
    PA X (a :: es) (TAA F W fun en S => (fa en S).bind fun x S1 => (fs en S1).bind fun xs S2 => .ok (x :: xs) S2) :=
  ⟨fun ps pins s st H Q I p => (pa_cons ha hs (okX_star hx es X.env)).run ps pins s st H Q I (by
    have p1 := TAA.ofE (g := fun en x S1 => (fs en S1).bind fun xs S2 => .ok (x :: xs) S2) p
    obtain ⟨en, S, J, r, w, e, p1⟩ := p1
    refine ⟨en, S, J, r, w, e, ?_⟩
    cases h : fa en S with
    | stk => rw [h] at p1; exact p1
    | exc c fs S1 => rw [h] at p1; exact p1
    | ok x S1 =>
      rw [h] at p1
      intro H' J' r' v a1 a2 a3
      obtain ⟨en2, J2, r2, S2, x2, e2, w2, k2, p2⟩ := p1 H' J' r' v a1 a2 a3
      obtain ⟨en3, S3, J3, r3, w3, e3, p3⟩ := TAA.bind (g := fun _ xs S2 => .ok (x2 :: xs) S2) (f := fs) (W := W) (F := F) (st := st) (H := H') (Q := Q) ⟨en2, S2, J2, r2, w2, e2, p2⟩
      refine ⟨en2, S2, J2, r2, w2, e2, ?_⟩
      cases h3 : fs en2 S2 with
      | stk => rw [h3] at p2; exact p2
      | exc c fs S1 => rw [h3] at p2; exact p2
      | ok xs S4 =>
        rw [h3] at p2
        exact fun H5 J5 r5 vs b1 b2 b3 => p2 H5 J5 r5 (v :: vs) b1 b2 (.cons (k2.le b2) b3))⟩
/-! ### atoms -/
theorem sd_int {i : Int} {j : Nat} : PE X (.Constant (.int i) j pos) (TT F W fun _ S => .ok (.int i) S) := ⟨fun pins s st H Q I ⟨en, S, J, r, w, e, p⟩ => pe_int.run pins s st H Q I (p.stay w (.int i))⟩
theorem sd_bl {i : Bool} {j : Nat} : PE X (.Constant (.bool i) j pos) (TT F W fun _ S => .ok (.bl i) S) := ⟨fun pins s st H Q I ⟨en, S, J, r, w, e, p⟩ => pe_bl.run pins s st H Q I (p.stay w (.bl i))⟩
theorem sd_non {j : Nat} : PE X (.Constant .none j pos) (TT F W fun _ S => .ok .non S) := ⟨fun pins s st H Q I ⟨en, S, J, r, w, e, p⟩ => pe_non.run pins s st H Q I (p.stay w .non)⟩
theorem sd_str {z : Str} {j : Nat} : PE X (.Constant (.str z) j pos) (TT F W fun _ S => .ok (.str z) S) := ⟨fun pins s st H Q I ⟨en, S, J, r, w, e, p⟩ => pe_str.run pins s st H Q I (p.stay w (.str z))⟩
theorem sd_var {i : Nat} {x : Str} (hN : X.N[i]? = some x) (hv : Vis X.env.scope x) (h1 : (x == ("__debug__" : Str)) = false) (h2 : (x == ("__classdict__" : Str)) = false) : PE X (.Name x pos) (TT F W fun en S => getS en i S) :=
  ⟨fun pins s st H Q I ⟨en, S, J, r, w, e, p⟩ => (pe_var hN hv h1 h2).run pins s st H Q I (by
    dsimp only [getS] at p
    split at p
    · rename_i v h
      obtain ⟨vx, g1, g2⟩ := e.en i v h
      have hl : i < st.length := by rw [I.len]; exact (List.getElem?_eq_some_iff.mp hN).1
      exact ⟨vx, by rw [WS.st, List.getElem?_append_left hl] at g1; exact g1, p.stay w g2⟩
    · exact p.elim)⟩
theorem sd_glo {x : Str} {v : Val} {vx : V} {u : Value} (hg : Gl X x) (hm : X.mg x = some u) (rv : RelV vx u) (k : ∀ J r, Rep F J r v vx) (hd : (x == ("__debug__" : Str)) = false) : PE X (.Name x pos) (TT F W fun _ S => .ok v S) :=
  ⟨fun pins s st H Q I ⟨en, S, J, r, w, e, p⟩ => (pe_glob hg hm rv hd).run pins s st H Q I (p.stay w (k _ _))⟩
theorem sd_neg {fa : Enm → Store → Res Val} (ha : PE X a (TT F W fa)) : PE X (.UnaryOp .USub a pos) (TT F W fun en S => (fa en S).bind negV) :=
  ⟨fun pins s st H Q I p => PyProof.Rows.UnaryOp_ (thn (ha.run pins s st H _ I (TT.bind (g := fun _ => negV) p)) fun v s1 ⟨vx, H1, I1, r1, en, J1, ro1, S1, x, e1, w1, k1, p1⟩ => by
    unfold negV at p1
    split at p1
    · cases k1
      exact un_neg pins s1 st H1 _ _ _ I1 r1 ⟨_, rfl, p1.stay w1 (.int _)⟩
    · exact p1.elim)⟩
/-! ### and, or, not, by truth -/
theorem truR_cases (x : Val) (S : Store) : (∃ b, truE S x = some b ∧ truR x S = .ok b S) ∨ truR x S = .stk := by
  unfold truR
  cases h : truE S x with
  | none => exact .inr rfl
  | some b => exact .inl ⟨b, rfl, rfl⟩
theorem sd_andT (hK : F.K = X.K) {rest : List Expr} {fa fb : Enm → Store → Res Val} (ha : PE X a (TT F W fa)) (hb : PE X (.BoolOp .And (b :: rest) pos) (TT F W fb)) :
    PE X (.BoolOp .And (a :: b :: rest) pos) (TT F W fun en S => (fa en S).bind fun x S1 => (truR x S1).bind fun c S2 => if c = true then fb en S2 else .ok x S2) :=
  ⟨fun pins s st H Q I p => (pe_andT ha hb).run pins s st H Q I (by
    obtain ⟨en, S, J, r, w, e, p1⟩ := TT.bind (g := fun en x S1 => (truR x S1).bind fun c S2 => if c = true then fb en S2 else .ok x S2) p
    refine ⟨en, S, J, r, w, e, ?_⟩
    cases h : fa en S with
    | stk => rw [h] at p1; exact p1
    | exc c fs S1 => rw [h] at p1; exact p1
    | ok x S1 =>
      rw [h] at p1
      intro H' J' r' v a1 a2 a3
      obtain ⟨en2, J2, r2, S2, x2, e2, w2, k2, p2⟩ := p1 H' J' r' v a1 a2 a3
      rcases truR_cases x2 S2 with ⟨b, t1, t2⟩ | t2
      · rw [t2] at p2
        simp only [Res.bind_ok] at p2
        refine ⟨b, tru_core hK w2 k2 t1, ?_⟩
        cases b with
        | true => exact ⟨en2, S2, J2, r2, w2, e2, p2⟩
        | false => exact p2.stay w2 k2
      · rw [t2] at p2; exact p2.elim)⟩
theorem sd_orT (hK : F.K = X.K) {rest : List Expr} {fa fb : Enm → Store → Res Val} (ha : PE X a (TT F W fa)) (hb : PE X (.BoolOp .Or (b :: rest) pos) (TT F W fb)) :
    PE X (.BoolOp .Or (a :: b :: rest) pos) (TT F W fun en S => (fa en S).bind fun x S1 => (truR x S1).bind fun c S2 => if c = true then .ok x S2 else fb en S2) :=
  ⟨fun pins s st H Q I p => (pe_orT ha hb).run pins s st H Q I (by
    obtain ⟨en, S, J, r, w, e, p1⟩ := TT.bind (g := fun en x S1 => (truR x S1).bind fun c S2 => if c = true then .ok x S2 else fb en S2) p
    refine ⟨en, S, J, r, w, e, ?_⟩
    cases h : fa en S with
    | stk => rw [h] at p1; exact p1
    | exc c fs S1 => rw [h] at p1; exact p1
    | ok x S1 =>
      rw [h] at p1
      intro H' J' r' v a1 a2 a3
      obtain ⟨en2, J2, r2, S2, x2, e2, w2, k2, p2⟩ := p1 H' J' r' v a1 a2 a3
      rcases truR_cases x2 S2 with ⟨b, t1, t2⟩ | t2
      · rw [t2] at p2
        simp only [Res.bind_ok] at p2
        refine ⟨b, tru_core hK w2 k2 t1, ?_⟩
        cases b with
        | true => exact p2.stay w2 k2
        | false => exact ⟨en2, S2, J2, r2, w2, e2, p2⟩
      · rw [t2] at p2; exact p2.elim)⟩
theorem sd_notT (hK : F.K = X.K) {fa : Enm → Store → Res Val} (ha : PE X a (TT F W fa)) :
    PE X (.UnaryOp .Not a pos) (TT F W fun en S => (fa en S).bind fun x S1 => (truR x S1).bind fun c S2 => .ok (.bl (!c)) S2) :=
  ⟨fun pins s st H Q I p => (pe_notT ha).run pins s st H Q I (by
    obtain ⟨en, S, J, r, w, e, p1⟩ := TT.bind (g := fun en x S1 => (truR x S1).bind fun c S2 => .ok (.bl (!c)) S2) p
    refine ⟨en, S, J, r, w, e, ?_⟩
    cases h : fa en S with
    | stk => rw [h] at p1; exact p1
    | exc c fs S1 => rw [h] at p1; exact p1
    | ok x S1 =>
      rw [h] at p1
      intro H' J' r' v a1 a2 a3
      obtain ⟨en2, J2, r2, S2, x2, e2, w2, k2, p2⟩ := p1 H' J' r' v a1 a2 a3
      rcases truR_cases x2 S2 with ⟨b, t1, t2⟩ | t2
      · rw [t2] at p2
        exact ⟨b, tru_core hK w2 k2 t1, p2.stay w2 (.bl _)⟩
      · rw [t2] at p2; exact p2.elim)⟩
/-! ### the same as tests -/
theorem TB.cong {f g : Enm → Store → Res Bool} (h : ∀ en S, f en S = g en S) : TB F W f = TB F W g := by
  have e : f = g := funext fun en => funext fun S => h en S
  rw [e]
theorem Res.bind_assoc {α β γ : Type} (x : Res α) (f : α → Store → Res β) (g : β → Store → Res γ) : (x.bind f).bind g = x.bind fun a S => (f a S).bind g := by
  cases x <;> rfl
theorem tb_and {fa fb : Enm → Store → Res Val} : TB F W (fun en S => ((fa en S).bind fun x S1 => (truR x S1).bind fun c S2 => if c = true then fb en S2 else .ok x S2).bind truR)
    = TB F W (fun en S => ((fa en S).bind truR).bind fun c S1 => if c = true then (fb en S1).bind truR else .ok false S1) := TB.cong fun en S => by
  rw [Res.bind_assoc, Res.bind_assoc]
  cases fa en S with
  | stk => rfl
  | exc c fs S1 => rfl
  | ok x S1 =>
    simp only [Res.bind_ok]
    rcases truR_cases x S1 with ⟨b, t1, t2⟩ | t2
    · rw [t2]
      cases b with
      | true => rfl
      | false => simp only [Res.bind_ok, Bool.false_eq_true, if_false]; exact t2
    · rw [t2]; rfl
theorem tb_or {fa fb : Enm → Store → Res Val} : TB F W (fun en S => ((fa en S).bind fun x S1 => (truR x S1).bind fun c S2 => if c = true then .ok x S2 else fb en S2).bind truR)
    = TB F W (fun en S => ((fa en S).bind truR).bind fun c S1 => if c = true then .ok true S1 else (fb en S1).bind truR) := TB.cong fun en S => by
  rw [Res.bind_assoc, Res.bind_assoc]
  cases fa en S with
  | stk => rfl
  | exc c fs S1 => rfl
  | ok x S1 =>
    simp only [Res.bind_ok]
    rcases truR_cases x S1 with ⟨b, t1, t2⟩ | t2
    · rw [t2]
      cases b with
      | false => rfl
      | true => simp only [Res.bind_ok, if_true]; exact t2
    · rw [t2]; rfl
theorem tb_not {fa : Enm → Store → Res Val} : TB F W (fun en S => ((fa en S).bind fun x S1 => (truR x S1).bind fun c S2 => .ok (.bl (!c)) S2).bind truR)
    = TB F W (fun en S => ((fa en S).bind truR).bind fun c S1 => .ok (!c) S1) := TB.cong fun en S => by
  rw [Res.bind_assoc, Res.bind_assoc]
  cases fa en S with
  | stk => rfl
  | exc c fs S1 => rfl
  | ok x S1 =>
    simp only [Res.bind_ok]
    rcases truR_cases x S1 with ⟨b, t1, t2⟩ | t2
    · rw [t2]; rfl
    · rw [t2]; rfl
theorem tb_cmp {o : Cop} {fa fb : Enm → Store → Res Val} : TB F W (fun en S => ((fa en S).bind fun x S1 => (fb en S1).bind fun y S2 => optB S2 (cmpE o x y S2)).bind truR)
    = TB F W (fun en S => (fa en S).bind fun x S1 => (fb en S1).bind fun y S2 => optT S2 (cmpE o x y S2)) := TB.cong fun en S => by
  rw [Res.bind_assoc]
  cases fa en S with
  | stk => rfl
  | exc c fs S1 => rfl
  | ok x S1 =>
    simp only [Res.bind_ok]
    rw [Res.bind_assoc]
    cases fb en S1 with
    | stk => rfl
    | exc c fs S1 => rfl
    | ok y S2 =>
      simp only [Res.bind_ok]
      cases cmpE o x y S2 <;> rfl
end
end GW
/-! Core 6: chains, isinstance, places, displays, built-ins. -/
namespace GW
open PySem L2

def SmK (K : PySem.W.Frag) : Prop := (∃ o, K.lookup sysModules = some o) ∧ ∃ o es ep, K.lookup cStatics = some o ∧ o.data = .dict es ep ∧ StrKeys es ∧ nsFind es digitsKey = none
theorem SmK.free {K : PySem.W.Frag} (h : SmK K) {g : Heap} (k : K.In g) : Free g := by
  obtain ⟨o, es, ep, h1, h2, h3, h4⟩ := h.2
  exact ⟨fun x => nsFind es x, ⟨o, es, ep, k _ _ h1, h2, h3, fun _ => rfl⟩, h4⟩
structure Sx (F : Fx) (X : Cx) : Prop where
  hK : F.K = X.K
  un : X.A.units + 100 < cLine
  gd : X.A.guards = some []
  sm : SmK X.K

section
variable {F : Fx} {X : Cx} {W : WS} {pins : List (Addr × Obj)} {s : Shared} {st : L2.St} {H J H1 J1 : Hp} {r r1 : List Addr} {S : Store}
variable {a b c : Expr} {es : List Expr} {pos : Pos}
theorem sd_chn (sx : Sx F X) (o p : Cop) {fa fb fc : Enm → Store → Res Val} (ha : PE X a (TT F W fa)) (hb : PE X b (TT F W fb)) (hc : PE X c (TT F W fc)) (hx : okX c = true) :
    PE X (.Compare a [o.op, p.op] [b, c] pos) (TT F W fun en S => (fa en S).bind fun x S1 => (fb en S1).bind fun y S2 => match cmpE o x y S2 with
      | some true => (fc en S2).bind fun z S3 => optB S3 (cmpE p y z S3)
      | some false => .ok (.bl false) S2
      | none => .stk) := by
  have hu : X.A.units + 64 < cLine := by have := sx.un; omega
  refine ⟨fun pins s st H Q I q => PyProof.Rows.Compare_chain (thn (ha.run pins s st H _ I (TT.bind (g := fun en x S1 => (fb en S1).bind fun y S2 => match cmpE o x y S2 with
      | some true => (fc en S2).bind fun z S3 => optB S3 (cmpE p y z S3)
      | some false => .ok (.bl false) S2
      | none => .stk) q)) fun v s1 ⟨vx, H1, I1, r1, en, J1, ro1, S1, x, e1, w1, k1, p1⟩ => PyProof.Rows.chain_link ?_) (okX_mark hx p.op)⟩
  refine thn (hb.run pins s1 st H1 _ I1 ⟨en, S1, J1, ro1, w1, e1, PoE.bind p1⟩) fun u s2 ⟨vy, H2, I2, r2, J2, ro2, S2, y, w2, l2, k2, p2⟩ => ?_
  dsimp only at p2
  have q1 : ∃ k, cmpE o x y S2 = some k := by
    cases h : cmpE o x y S2 with
    | none => rw [h] at p2; exact p2.elim
    | some k => exact ⟨k, rfl⟩
  obtain ⟨k, hk⟩ := q1
  refine thn (cmp_ok (W := W) sx.hK hu o I2 w2 (k1.le l2) k2 r1 r2 (Q := fun z H3 => z = .bl k ∧ ∃ J3 r3, Wo F H3 J3 r3 S2 ∧ Le H2 J2 ro2 H3 J3 r3) (by
    rw [hk]
    exact fun H' J' r' w' a1 a2 a3 => by cases a3; exact ⟨rfl, J', r', a1, a2⟩)) fun d s3 ⟨z, H3, I3, r3, e3, J3, ro3, w3, l3⟩ => ?_
  subst e3
  cases r3
  rw [hk] at p2
  refine wpAny_truthy_bool ?_
  cases k with
  | false => exact PyProof.Rows.ite_ff ⟨.bl false, H3, I3, rfl, (p2.le l3).stay w3 (.bl _)⟩
  | true =>
    refine PyProof.Rows.ite_tt (PyProof.Rows.chain_last (thn (hc.run pins s3 st H3 _ I3 ⟨en, S2, J3, ro3, w3, (e1.le l2).le l3, PoE.bind (p2.le l3)⟩) fun w' s4 ⟨vz, H4, I4, r4, J4, ro4, S4, z, w4, l4, k4, p4⟩ => ?_))
    exact cmp_ok sx.hK hu p I4 w4 ((k2.le l3).le l4) k4 r2 r4 p4
theorem sd_ifeT (hK : F.K = X.K) {fc fa fb : Enm → Store → Res Val} (hc : PT X c (TB F W fun en S => (fc en S).bind truR)) (ha : PE X a (TT F W fa)) (hb : PE X b (TT F W fb)) :
    PE X (.IfExp c a b pos) (TT F W fun en S => (fc en S).bind fun x S1 => (truR x S1).bind fun d S2 => if d = true then fa en S2 else fb en S2) := by
  have e : (fun en S => (fc en S).bind fun x S1 => (truR x S1).bind fun d S2 => if d = true then fa en S2 else fb en S2) = fun (en : Enm) (S : Store) => ((fc en S).bind truR).bind fun d S1 => if d = true then fa en S1 else fb en S1 :=
    funext fun en => funext fun S => (Res.bind_assoc _ _ _).symm
  rw [e]
  exact sd_ife hc ha hb
/-! ### isinstance -/
theorem ty_core (hK : F.K = X.K) (w : Wo F H J r S) {x : Val} {v : V} {t : String} (p : Rep F J r x v) (h : tyN S x = some t) : TyX X.K H v (.type t) := by
  cases p with
  | non => cases h; exact .base .non
  | bl b => cases h; exact .base (.bl b)
  | int i => cases h; exact .base (.int i)
  | str z => cases h; exact .base (.str z)
  | tup q _ =>
    cases h
    rcases sqT_H w q with (q | ⟨o, q⟩) | ⟨o, its, n, q, hc, _⟩
    · exact .base (.tup q)
    · exact .fTuple q
    · exact .kTuple (hK ▸ q) hc
  | lst q _ => cases h; exact .base (.lst (w.sub _ _ q))
  | ref q =>
    simp only [tyN] at h
    split at h
    · rename_i xs e0
      cases h
      obtain ⟨b', e2, vs, e3, t⟩ := w.obs _ _ e0
      rw [q] at e2
      cases e2
      exact .base (.lst e3)
    · rename_i ks xs e0
      cases h
      obtain ⟨b', e2, vs, e3, t⟩ := w.obs _ _ e0
      rw [q] at e2
      cases e2
      exact .base (.dK e3)
    · cases h
  | _ => cases h
theorem sd_isi1 (sx : Sx F X) {n : String} {x : Str} {p p1 : Pos} (hn : Str.ofString n = x) (hg : Gl X "isinstance") (hm : X.mg "isinstance" = none) (hg1 : Gl X x) (hm1 : X.mg x = none) (hb : bootBuiltins x = some (.type n)) (h0 : x ≠ "__name__") (hd : (x == ("__debug__" : Str)) = false)
    {fa : Enm → Store → Res Val} (hx : okX a = true) (ha : PE X a (TT F W fa)) :
    PE X (.Call (.Name "isinstance" p) [a, .Name x p1] [] pos) (TT F W fun en S => (fa en S).bind fun x S1 => optB S1 (isiE S1 x [n])) :=
  ⟨fun pins s st H Q I q => (pe_callB call_isi hg hm PyProof.Rows.boot_isinstance (pa_cons ha (pa_cons (pe_bltn (v := .ty n) hg1 hm1 hb rfl h0 hd) pa_nil) (okX_star hx _ _)) (by decide) (by decide) (okX_star hx _ _)).run pins s st H Q I (by
    obtain ⟨en, S, J, r, w, e, p1⟩ := TT.bind (g := fun _ x S1 => optB S1 (isiE S1 x [n])) q
    refine ⟨en, S, J, r, w, e, ?_⟩
    cases h : fa en S with
    | stk => rw [h] at p1; exact p1
    | exc c fs S1 => rw [h] at p1; exact p1
    | ok x S1 =>
      rw [h] at p1
      intro H' J' r' v a1 a2 a3
      obtain ⟨en2, J2, r2, S2, x2, e2, w2, k2, p2⟩ := p1 H' J' r' v a1 a2 a3
      obtain ⟨b, hb, p2⟩ := optB_some p2
      unfold isiE at hb
      split at hb
      · rename_i t ht
        exact ⟨v, .ty n, .type t, .type n, b, rfl, .ty n, ty_core sx.hK w2 k2 ht, kit_ty hb, p2.stay w2 (.bl _)⟩
      · cases hb)⟩
theorem sd_isi2 (sx : Sx F X) {n m : String} {x y : Str} {p p1 p2 p3 : Pos} {kk : Nat} (hg : Gl X "isinstance") (hm : X.mg "isinstance" = none) (hg1 : Gl X x) (hm1 : X.mg x = none) (hb : bootBuiltins x = some (.type n)) (h0 : x ≠ "__name__") (hd : (x == ("__debug__" : Str)) = false)
    (hg2 : Gl X y) (hm2 : X.mg y = none) (hb2 : bootBuiltins y = some (.type m)) (h02 : y ≠ "__name__") (hd2 : (y == ("__debug__" : Str)) = false)
    {fa : Enm → Store → Res Val} (hx : okX a = true) (ha : PE X a (TT F W fa)) :
    PE X (.Call (.Name "isinstance" p) [a, .Tuple [.Name x p1, .Name y p2] kk p3] [] pos) (TT F W fun en S => (fa en S).bind fun x S1 => optB S1 (isiE S1 x [n, m])) :=
  ⟨fun pins s st H Q I q => (pe_callB call_isiT hg hm PyProof.Rows.boot_isinstance (pa_cons ha (pa_cons (pe_tup (pa_cons (pe_bltn (v := .ty n) hg1 hm1 hb rfl h0 hd) (pa_cons (pe_bltn (v := .ty m) hg2 hm2 hb2 rfl h02 hd2) pa_nil))) pa_nil) (okX_star hx _ _)) (by decide) (by decide) (okX_star hx _ _)).run pins s st H Q I (by
    obtain ⟨en, S, J, r, w, e, p1⟩ := TT.bind (g := fun _ x S1 => optB S1 (isiE S1 x [n, m])) q
    refine ⟨en, S, J, r, w, e, ?_⟩
    cases h : fa en S with
    | stk => rw [h] at p1; exact p1
    | exc c fs S1 => rw [h] at p1; exact p1
    | ok x S1 =>
      rw [h] at p1
      intro H' J' r' v a1 a2 a3
      obtain ⟨en2, J2, r2, S2, x2, e2, w2, k2, p2⟩ := p1 H' J' r' v a1 a2 a3
      obtain ⟨b, hb, p2⟩ := optB_some p2
      refine ⟨by show 2 ≤ sizeLine; decide, fun p0 hp0 => ?_⟩
      obtain ⟨w3, l3⟩ := w2.frz (o := .tup [.ty n, .ty m]) hp0
      cases ht : tyN S2 x2 with
      | none => simp only [isiE, ht] at hb; cases hb
      | some t =>
        simp only [isiE, ht] at hb
        refine ⟨v, p0, [.ty n, .ty m], .type t, [.type n, .type m], b, rfl, upd_same, .cons (.ty n) (.cons (.ty m) .nil), ty_core sx.hK w3 (k2.le l3) (show tyN S2 x2 = some t from ht), ?_, (p2.le l3).stay w3 (.bl _)⟩
        cases hk : kitB t n with
        | none => rw [hk] at hb; cases hb
        | some b1 =>
          rw [hk] at hb
          cases b1 with
          | true => cases hb; exact kitAny_cons (kit_ty hk) (fun z => nomatch z) (fun _ => rfl)
          | false =>
            refine kitAny_cons (kit_ty hk) (fun _ => ?_) (fun z => nomatch z)
            refine kitAny_cons (kit_ty hb) (fun z => ?_) (fun z => z)
            rw [z]; exact kitAny_nil)⟩
/-! ### places -/
theorem atI_rep {F : Fx} {J : Hp} {r : List Addr} {xs : List Val} {vs : List V} {i : Int} {x : Val} (t : Reps F J r xs vs) (h : ixV xs i = some x) : ∃ v, L2.atI vs i = some v ∧ Rep F J r x v := by
  unfold ixV L2.atI at h
  unfold L2.atI
  rw [t.length]
  obtain ⟨j, h1, h2⟩ := Option.bind_eq_some_iff.mp h
  obtain ⟨v, g1, g2⟩ := t.get h2
  exact ⟨v, by rw [h1]; exact g1, g2⟩
theorem oV_some {o : Option Val} {Q : VK} (p : PoE F W st H J r (oV o S) Q) : ∃ v, o = some v ∧ PoE F W st H J r (.ok v S) Q := by
  cases o with
  | none => exact p.elim
  | some v => exact ⟨v, rfl, p⟩
theorem ixr (hK : F.K = X.K) : IxR X fun vx vy H Q => ∃ J r S x y st, Wo F H J r S ∧ Rep F J r x vx ∧ Rep F J r y vy ∧ PoE F W st H J r (idxV x y S) Q := by
  rintro value slice pins s st H vx vy v u Q I rx ry ⟨J, r, S, x, y, st', w, k1, k2, p⟩ hs
  unfold idxV at p
  split at p
  · cases k2
    have lists : ∀ {l : Addr} {xs : List Val} {vs : List V}, vx = .ref l → SqL X.K H l vs → Reps F J r xs vs → ∀ i, PoE F W st' H J r (oV (ixV xs i) S) Q → RelV (V.int i) u → wpAny (model X.prog X.w) X.A (PyProof.Rows.subscriptTail value slice v u) (EP X pins st Q) X.xe s := fun {l xs vs} e q t i p ry => by
      obtain ⟨z, hz, p⟩ := oV_some p
      obtain ⟨vz, g1, g2⟩ := atI_rep t hz
      exact ix_list value slice pins s st H vx _ v u Q I rx ry ⟨l, vs, _, vz, e, rfl, q, g1, p.stay w g2⟩ hs
    split at p
    · cases k1 with
      | tup q t =>
        obtain ⟨z, hz, p⟩ := oV_some p
        obtain ⟨vz, g1, g2⟩ := atI_rep t hz
        exact ix_tup value slice pins s st H _ _ v u Q I rx ry ⟨_, _, _, vz, rfl, rfl, hK ▸ sqT_H w q, g1, p.stay w g2⟩ hs
    · cases k1 with
      | lst q t => exact lists rfl (SqL.of (w.sub _ _ q)) t _ p ry
    · cases k1 with
      | scr q t => exact lists rfl (hK ▸ sqL_H w q) t _ p ry
    · cases k1
      split at p
      · rename_i hz
        split at p
        · rename_i c hc
          exact ix_str value slice pins s st H _ _ v u Q I rx ry ⟨_, _, c, rfl, rfl, hz, hc, p.stay w (.str _)⟩ hs
        · exact p.elim
      · exact p.elim
    · cases k1 with
      | ref q =>
        split at p
        · rename_i xs e0
          obtain ⟨b', e2, vs, e3, t⟩ := w.obs _ _ e0
          rw [q] at e2
          cases e2
          exact lists rfl (SqL.of e3) t _ p ry
        · exact p.elim
    · exact p.elim
  · exact p.elim
theorem sd_idx (hK : F.K = X.K) {fa fb : Enm → Store → Res Val} (ha : PE X a (TT F W fa)) (hb : PE X b (TT F W fb)) (hx : okX b = true) :
    PE X (.Subscript a b pos) (TT F W fun en S => (fa en S).bind fun x S1 => (fb en S1).bind fun y S2 => idxV x y S2) :=
  ⟨fun pins s st H Q I q => (pe_ix (ixr (W := W) hK) ha hb (okX_ix hx)).run pins s st H Q I (by
    obtain ⟨en, S, J, r, w, e, p1⟩ := q
    refine ⟨en, S, J, r, w, e, ?_⟩
    have p2 := PoE.bind p1
    cases h : fa en S with
    | stk => rw [h] at p2; exact p2
    | exc c fs S1 => rw [h] at p2; exact p2
    | ok x S1 =>
      rw [h] at p2
      intro H' J' r' v a1 a2 a3
      obtain ⟨J2, r2, S2, x2, w2, l2, k2, p3⟩ := p2 H' J' r' v a1 a2 a3
      refine ⟨en, S2, J2, r2, w2, e.le l2, ?_⟩
      have p4 := PoE.bind p3
      cases h2 : fb en S2 with
      | stk => rw [h2] at p4; exact p4
      | exc c fs S1 => rw [h2] at p4; exact p4
      | ok y S3 =>
        rw [h2] at p4
        intro H5 J5 r5 v5 b1 b2 b3
        obtain ⟨J6, r6, S6, y6, w6, l6, k6, p6⟩ := p4 H5 J5 r5 v5 b1 b2 b3
        exact ⟨J6, r6, S6, x2, y6, st, w6, k2.le l6, k6, p6⟩)⟩
end
end GW
/-! Core 7: slices, displays, built-in functions and methods. -/
namespace GW
open PySem L2
section
variable {F : Fx} {X : Cx} {W : WS} {pins : List (Addr × Obj)} {s : Shared} {st : L2.St} {H J H1 J1 : Hp} {r r1 : List Addr} {S : Store}
variable {a b c : Expr} {es : List Expr} {pos : Pos}
theorem cutL_rep {F : Fx} {J : Hp} {r : List Addr} {xs : List Val} {vs : List V} (lo hi : Option Int) (t : Reps F J r xs vs) : Reps F J r (cutL xs lo hi) (cutV vs lo hi) := by
  unfold cutL cutV
  rw [t.length]
  exact (t.drop _).take _
theorem cutL_all {xs : List Val} {lo hi : Option Int} (h1 : HT.sIx xs.length 0 lo = 0) (h2 : HT.sIx xs.length xs.length hi = xs.length) : cutL xs lo hi = xs := by
  unfold cutL
  rw [h1, h2, Nat.sub_zero, List.drop_zero, List.take_length]
theorem slr (hK : F.K = X.K) : SlR X fun vx lo hi H Q => ∃ J r S x st, Wo F H J r S ∧ Rep F J r x vx ∧ PoE F W st H J r (slcV x lo hi S) Q := by
  rintro pins s st H vx v vl vu lo hi sl Q I rx hs hl hu ⟨J, r, S, x, st', w, k, p⟩
  unfold slcV at p
  have lists : ∀ {l : Addr} {xs : List Val} {vs : List V}, vx = .ref l → H l = some (.lst vs) → Reps F J r xs vs → PoE F W st' H J r (.ok (.lst (cutL xs lo hi)) S) Q → _ := fun {l xs vs} e q t p =>
    sl_list pins s st H vx v vl vu lo hi sl Q I rx hs hl hu ⟨l, vs, e, SqL.of q, p.newL w (cutL_rep lo hi t)⟩
  split at p
  · cases k with
    | tup q t =>
      refine sl_tupA pins s st H _ v vl vu lo hi sl Q I rx hs hl hu ⟨_, _, rfl, hK ▸ sqT_H w q, fun e => ?_, fun _ => p.newT w (cutL_rep lo hi t)⟩
      rw [cutL_all (by rw [← t.length]; exact e.1) (by rw [← t.length]; exact e.2)] at p
      exact p.stay w (.tup q t)
  · cases k with
    | lst q t => exact lists rfl (w.sub _ _ q) t p
  · cases k
    split at p
    · rename_i hz
      exact sl_str pins s st H _ v vl vu lo hi sl Q I rx hs hl hu ⟨_, rfl, hz, p.stay w (.str _)⟩
    · exact p.elim
  · cases k with
    | ref q =>
      split at p
      · rename_i xs e0
        obtain ⟨b', e2, vs, e3, t⟩ := w.obs _ _ e0
        rw [q] at e2
        cases e2
        exact lists rfl e3 t p
      · exact p.elim
  · exact p.elim
theorem slrR (hK : F.K = X.K) : SlR X fun vx lo hi H Q => ∃ J r S x st, Wo F H J r S ∧ Rep F J r x vx ∧ PoE F W st H J r (slcRV x lo hi S) Q := by
  rintro pins s st H vx v vl vu lo hi sl Q I rx hs hl hu ⟨J, r, S, x, st', w, k, p⟩
  unfold slcRV at p
  have lists : ∀ {l : Addr} {xs : List Val} {vs : List V}, vx = .ref l → H l = some (.lst vs) → Reps F J r xs vs → PoE F W st' H J r (newR (cutL xs lo hi) S) Q → _ := fun {l xs vs} e q t p =>
    sl_list pins s st H vx v vl vu lo hi sl Q I rx hs hl hu ⟨l, vs, e, SqL.of q, (p.newR w (cutL_rep lo hi t)).2⟩
  split at p
  · cases k with
    | lst q t => exact lists rfl (w.sub _ _ q) t p
  · cases k with
    | ref q =>
      split at p
      · rename_i xs e0
        obtain ⟨b', e2, vs, e3, t⟩ := w.obs _ _ e0
        rw [q] at e2
        cases e2
        exact lists rfl e3 t p
      · exact p.elim
  · exact slr hK pins s st H _ v vl vu lo hi sl Q I rx hs hl hu ⟨J, r, S, _, st', w, k, p⟩
def PoP (F : Fx) (W : WS) (st : L2.St) (H J : Hp) (r : List Addr) (x : Res (Option Int)) (Q : Option Int → Hp → Prop) : Prop := match x with
  | .ok v S' => ∀ H' J' r', Wo F H' J' r' S' → Le H J r H' J' r' → Q v H'
  | .exc c fs S' => ∀ H' J' r' d ws, Wo F H' J' r' S' → Le H J r H' J' r' → J' d = some (.xd ((F.cf c).zip ws)) → Reps F J' r' fs ws → W.w (.ref (F.ca c)) (some d) st H'
  | .stk => False
def TP (F : Fx) (W : WS) (f : Enm → Store → Res (Option Int)) : L2.TO := fun st H Q => ∃ en S J r, Wo F H J r S ∧ EnW F W J r en st ∧ PoP F W st H J r (f en S) Q
theorem po_no : PO X none (TP F W fun _ S => .ok none S) := ⟨fun pins s st H Q I ⟨en, S, J, r, w, e, p⟩ => po_none.run pins s st H Q I (p H J r w Le.refl)⟩
theorem po_yes {f : Enm → Store → Res Val} (h : PE X a (TT F W f)) : PO X (some a) (TP F W fun en S => (f en S).bind fun x S1 => match x with | .int i => .ok (some i) S1 | _ => .stk) :=
  ⟨fun pins s st H Q I ⟨en, S, J, r, w, e, p⟩ => (po_some h).run pins s st H Q I (by
    refine ⟨en, S, J, r, w, e, ?_⟩
    dsimp only at p
    cases h : f en S with
    | stk => rw [h] at p; exact p
    | exc c fs S1 => rw [h] at p; exact p
    | ok x S1 =>
      rw [h] at p
      intro H' J' r' v a1 a2 a3
      simp only [Res.bind_ok] at p
      cases a3 <;> first | exact p.elim | exact ⟨_, rfl, p H' J' r' a1 a2⟩)⟩
theorem sd_slc (hK : F.K = X.K) {lo hi : Option Expr} {p2 : Pos} {fa : Enm → Store → Res Val} {fl fh : Enm → Store → Res (Option Int)} (ha : PE X a (TT F W fa)) (hl : PO X lo (TP F W fl)) (hh : PO X hi (TP F W fh)) :
    PE X (.Subscript a (.Slice lo hi none p2) pos) (TT F W fun en S => (fa en S).bind fun x S1 => (fl en S1).bind fun l S2 => (fh en S2).bind fun h S3 => slcV x l h S3) :=
  ⟨fun pins s st H Q I q => (pe_slice (slr (W := W) hK) ha hl hh).run pins s st H Q I (by
    obtain ⟨en, S, J, r, w, e, p1⟩ := q
    refine ⟨en, S, J, r, w, e, ?_⟩
    have p2 := PoE.bind p1
    cases h : fa en S with
    | stk => rw [h] at p2; exact p2
    | exc c fs S1 => rw [h] at p2; exact p2
    | ok x S1 =>
      rw [h] at p2
      intro H' J' r' v a1 a2 a3
      obtain ⟨J2, r2, S2, x2, w2, l2, k2, p3⟩ := p2 H' J' r' v a1 a2 a3
      refine ⟨en, S2, J2, r2, w2, e.le l2, ?_⟩
      dsimp only at p3
      cases h2 : fl en S2 with
      | stk => rw [h2] at p3; exact p3
      | exc c fs S1 => rw [h2] at p3; exact fun H' J' r' d ws b1 b2 b3 b4 => p3 H' J' r' d ws b1 b2 b3 b4
      | ok l S3 =>
        rw [h2] at p3
        intro H5 J5 r5 b1 b2
        refine ⟨en, S3, J5, r5, b1, (e.le l2).le b2, ?_⟩
        simp only [Res.bind_ok] at p3
        cases h3 : fh en S3 with
        | stk => rw [h3] at p3; exact p3
        | exc c fs S1 => rw [h3] at p3; exact fun H' J' r' d ws c1 c2 c3 c4 => p3 H' J' r' d ws c1 (b2.trans c2) c3 c4
        | ok u S4 =>
          rw [h3] at p3
          intro H6 J6 r6 c1 c2
          exact ⟨J6, r6, S4, x2, st, c1, (k2.le b2).le c2, p3.le (b2.trans c2)⟩)⟩
theorem sd_slcR (hK : F.K = X.K) {lo hi : Option Expr} {p2 : Pos} {fa : Enm → Store → Res Val} {fl fh : Enm → Store → Res (Option Int)} (ha : PE X a (TT F W fa)) (hl : PO X lo (TP F W fl)) (hh : PO X hi (TP F W fh)) :
    PE X (.Subscript a (.Slice lo hi none p2) pos) (TT F W fun en S => (fa en S).bind fun x S1 => (fl en S1).bind fun l S2 => (fh en S2).bind fun h S3 => slcRV x l h S3) :=
  ⟨fun pins s st H Q I q => (pe_slice (slrR (W := W) hK) ha hl hh).run pins s st H Q I (by
    obtain ⟨en, S, J, r, w, e, p1⟩ := q
    refine ⟨en, S, J, r, w, e, ?_⟩
    have p2 := PoE.bind p1
    cases h : fa en S with
    | stk => rw [h] at p2; exact p2
    | exc c fs S1 => rw [h] at p2; exact p2
    | ok x S1 =>
      rw [h] at p2
      intro H' J' r' v a1 a2 a3
      obtain ⟨J2, r2, S2, x2, w2, l2, k2, p3⟩ := p2 H' J' r' v a1 a2 a3
      refine ⟨en, S2, J2, r2, w2, e.le l2, ?_⟩
      dsimp only at p3
      cases h2 : fl en S2 with
      | stk => rw [h2] at p3; exact p3
      | exc c fs S1 => rw [h2] at p3; exact fun H' J' r' d ws b1 b2 b3 b4 => p3 H' J' r' d ws b1 b2 b3 b4
      | ok l S3 =>
        rw [h2] at p3
        intro H5 J5 r5 b1 b2
        refine ⟨en, S3, J5, r5, b1, (e.le l2).le b2, ?_⟩
        simp only [Res.bind_ok] at p3
        cases h3 : fh en S3 with
        | stk => rw [h3] at p3; exact p3
        | exc c fs S1 => rw [h3] at p3; exact fun H' J' r' d ws c1 c2 c3 c4 => p3 H' J' r' d ws c1 (b2.trans c2) c3 c4
        | ok u S4 =>
          rw [h3] at p3
          intro H6 J6 r6 c1 c2
          exact ⟨J6, r6, S4, x2, st, c1, (k2.le b2).le c2, p3.le (b2.trans c2)⟩)⟩
/-! ### displays -/
theorem mkT_ok {xs : List Val} {Q : VK} (p : PoE F W st H J r (mkT xs S) Q) : xs.length ≤ sizeLine ∧ PoE F W st H J r (.ok (.tup xs) S) Q := by
  unfold mkT at p
  split at p
  · rename_i h; exact ⟨h, p⟩
  · exact p.elim
theorem mkL_ok (w : Wo F H J r S) {b : Bool} {xs : List Val} {vs : List V} (t : Reps F J r xs vs) {Q : VK} (p : PoE F W st H J r (mkL b xs S) Q) : vs.length ≤ sizeLine ∧ ∀ q, H q = none → Q (.ref q) (upd H q (.lst vs)) := by
  unfold mkL at p
  split at p
  · rename_i hz
    refine ⟨by rw [t.length]; exact hz, fun q hq => ?_⟩
    split at p
    · obtain ⟨w2, l2⟩ := w.lay (u := .lst vs) (o := .lst xs) hq ⟨vs, upd_same, t.up (fun _ _ z => z) (List.prefix_append _ _)⟩
      exact p _ _ _ _ w2 l2 (.ref (by rw [← w.len]; simp))
    · exact p.newL w t q hq
  · exact p.elim
theorem sd_tup {kk : Nat} {fs : Enm → Store → Res (List Val)} (h : PA X es (TAA F W fs)) : PE X (.Tuple es kk pos) (TT F W fun en S => (fs en S).bind fun xs S1 => mkT xs S1) :=
  ⟨fun pins s st H Q I q => (pe_tup h).run pins s st H Q I (by
    obtain ⟨en, S, J, r, w, e, p⟩ := TT.ofA (g := fun _ xs S1 => mkT xs S1) q
    refine ⟨en, S, J, r, w, e, ?_⟩
    cases h : fs en S with
    | stk => rw [h] at p; exact p
    | exc c fs S1 => rw [h] at p; exact p
    | ok xs S1 =>
      rw [h] at p
      intro H' J' r' vs a1 a2 a3
      obtain ⟨en2, J2, r2, S2, x2, e2, w2, k2, p2⟩ := p H' J' r' vs a1 a2 a3
      obtain ⟨hz, p2⟩ := mkT_ok p2
      exact ⟨by rw [k2.length]; exact hz, p2.newT w2 k2⟩)⟩
theorem sd_lst {b : Bool} {fs : Enm → Store → Res (List Val)} (h : PA X es (TAA F W fs)) : PE X (.List es pos) (TT F W fun en S => (fs en S).bind fun xs S1 => mkL b xs S1) :=
  ⟨fun pins s st H Q I q => (pe_lst h).run pins s st H Q I (by
    obtain ⟨en, S, J, r, w, e, p⟩ := TT.ofA (g := fun _ xs S1 => mkL b xs S1) q
    refine ⟨en, S, J, r, w, e, ?_⟩
    cases h : fs en S with
    | stk => rw [h] at p; exact p
    | exc c fs S1 => rw [h] at p; exact p
    | ok xs S1 =>
      rw [h] at p
      intro H' J' r' vs a1 a2 a3
      obtain ⟨en2, J2, r2, S2, x2, e2, w2, k2, p2⟩ := p H' J' r' vs a1 a2 a3
      exact mkL_ok w2 k2 p2)⟩
theorem sd_dic0 : PE X (.Dict [] [] pos) (TT F W fun _ S => mkD [] [] S) :=
  ⟨fun pins s st H Q I ⟨en, S, J, r, w, e, p⟩ => pe_dnewK.run pins s st H Q I (fun q hq => by
    obtain ⟨w2, l2⟩ := w.lay (u := .dK []) (o := .dct [] []) hq ⟨[], upd_same, .nil, rfl⟩
    exact p _ _ _ _ w2 l2 (.ref (by rw [← w.len]; simp)))⟩
theorem sd_dic1 {fk fv : Enm → Store → Res Val} (hk : PE X a (TT F W fk)) (hv : PE X b (TT F W fv)) :
    PE X (.Dict [some a] [b] pos) (TT F W fun en S => (fk en S).bind fun k S1 => (fv en S1).bind fun v S2 => mkD [k] [v] S2) :=
  ⟨fun pins s st H Q I ⟨en, S, J, r, w, e, p⟩ => (pe_disp (pps_cons hk hv pps_nil) rfl rfl (fun z => nomatch z) (by show 1 ≤ 15; decide)).run pins s st H Q I (fun q hq => by
    obtain ⟨w0, l0, n1, n2⟩ := w.aside (u := .dK []) hq
    refine ⟨en, S, J, r, w0, e, ?_⟩
    dsimp only at p
    have p2 := PoE.bind p
    have exq : ∀ {c fs S'}, PoE F W st H J r (.exc c fs S') Q → ∀ {H1 J1 r1}, Le H J r H1 J1 r1 → ∀ {Q' : VK}, PoE F W st H1 J1 r1 (.exc c fs S') Q' := fun z _ _ _ l _ => fun H' J' r' d ws b1 b2 b3 b4 => z H' J' r' d ws b1 (l.trans b2) b3 b4
    cases h : fk en S with
    | stk => rw [h] at p; exact p
    | exc c fs S1 => rw [h] at p; exact exq p l0
    | ok k S1 =>
      rw [h] at p
      simp only [Res.bind_ok] at p
      intro H1 J1 r1 vk a1 a2 a3
      have keep1 := a2.keep q _ upd_same n1
      have j1 : J1 q = none := by
        cases z : J1 q with
        | none => rfl
        | some o => rcases a2.new q o z with y | y
                    · rw [n2] at y; cases y
                    · rw [upd_same] at y; cases y
      refine ⟨en, S1, J1, r1, a1, e.le a2, ?_⟩
      cases h2 : fv en S1 with
      | stk => rw [h2] at p; exact p
      | exc c fs S1 => rw [h2] at p; exact exq p (l0.trans a2)
      | ok v S2 =>
        rw [h2] at p
        simp only [Res.bind_ok] at p
        intro H2 J2 r2 vv b1 b2 b3
        have keep2 := b2.keep q _ keep1.1 keep1.2
        have j2 : J2 q = none := by
          cases z : J2 q with
          | none => rfl
          | some o => rcases b2.new q o z with y | y
                      · rw [j1] at y; cases y
                      · rw [keep1.1] at y; cases y
        unfold mkD at p
        dsimp only at p
        split at p
        · rename_i kk hkk
          refine ⟨keep2.1, [(kk, vv)], ?_, by show 1 ≤ 15; decide, ?_⟩
          · unfold keyV at hkk
            split at hkk
            · cases hkk; cases a3; rfl
            · cases hkk; cases a3; rfl
            · cases hkk
          · have l2 := (l0.trans a2).trans b2
            obtain ⟨w3, l3⟩ := b1.own l2 (p := q) (u := .dK (mergeK [] [(kk, vv)])) (o := .dct [kk] [v]) hq keep2.2 j2 ⟨[vv], by rw [upd_same]; rfl, .cons (b3.up (fun _ _ z => z) (List.prefix_append _ _)) .nil, rfl⟩
            exact p _ _ _ _ w3 l3 (.ref (by rw [← b1.len]; simp))
        · exact p.elim)⟩
end
end GW
/-! Core 8: built-in functions. -/
namespace GW
open PySem L2
section
variable {F : Fx} {X : Cx} {W : WS} {pins : List (Addr × Obj)} {s : Shared} {st : L2.St} {H J H1 J1 : Hp} {r r1 : List Addr} {S : Store}
variable {a b c : Expr} {es : List Expr} {pos : Pos}
def RB (F : Fx) (f : Blt) : List V → Hp → VK → Prop := fun vs H Q => ∃ J r S xs st W, Wo F H J r S ∧ Reps F J r xs vs ∧ PoE F W st H J r (bltV f xs S) Q
theorem reps1 {F : Fx} {J : Hp} {r : List Addr} {x : Val} {vs : List V} (k : Reps F J r [x] vs) : ∃ v, vs = [v] ∧ Rep F J r x v := by
  cases k with
  | cons a b => cases b; exact ⟨_, rfl, a⟩
theorem reps2 {F : Fx} {J : Hp} {r : List Addr} {x y : Val} {vs : List V} (k : Reps F J r [x, y] vs) : ∃ v u, vs = [v, u] ∧ Rep F J r x v ∧ Rep F J r y u := by
  cases k with
  | cons a b => cases b with
    | cons b c => cases c; exact ⟨_, _, rfl, a, b⟩
theorem seq_of (hK : F.K = X.K) (w : Wo F H J r S) {l : Nat} {v : V} {xs : List Val} (k : Rep F J r (.ref l) v) (e : S[l]? = some (.lst xs)) : ∃ p vs, v = .ref p ∧ H p = some (.lst vs) ∧ Reps F J r xs vs := by
  cases k with
  | ref q =>
    obtain ⟨b', e2, vs, e3, t⟩ := w.obs _ _ e
    rw [q] at e2
    cases e2
    exact ⟨_, _, rfl, e3, t⟩
theorem cb_len (hK : F.K = X.K) : CallR X (.builtin "len") (RB F .len) := by
  rintro pins s st H vs us Q I ru ⟨J, r, S, xs, st', W, w, k, p⟩
  unfold bltV at p
  split at p <;> first | exact p.elim | (rename_i h; cases h; done) | skip
  rename_i x h
  obtain ⟨v, rfl, k1⟩ := reps1 k
  unfold lenV at p
  have fin : ∀ {q : Addr} {ys : List V} {xs : List Val}, v = .ref q → (SqL X.K H q ys ∨ SqT X.K H q ys) → Reps F J r xs ys → PoE F W st' H J r (.ok (.int xs.length) S) Q → _ := fun {q ys xs} e hq t p =>
    call_len_seq pins s st H [v] us Q I ru ⟨q, ys, by rw [e], hq, by rw [t.length]; exact p.stay w (.int _)⟩
  split at p
  · cases k1 with
    | tup q t => exact fin rfl (.inr (hK ▸ sqT_H w q)) t p
  · cases k1 with
    | lst q t => exact fin rfl (.inl (SqL.of (w.sub _ _ q))) t p
  · cases k1 with
    | scr q t => exact fin rfl (.inl (hK ▸ sqL_H w q)) t p
  · cases k1
    split at p
    · rename_i hz
      exact call_len_str pins s st H _ us Q I ru ⟨_, rfl, hz, p.stay w (.int _)⟩
    · exact p.elim
  · split at p
    · rename_i e0
      obtain ⟨q, ys, e, hq, t⟩ := seq_of hK w k1 e0
      exact fin e (.inl (SqL.of hq)) t p
    · exact p.elim
  · exact p.elim
theorem cb_int : CallR X (.type "int") (RB F .int) := by
  rintro pins s st H vs us Q I ru ⟨J, r, S, xs, st', W, w, k, p⟩
  unfold bltV at p
  split at p <;> first | exact p.elim | (rename_i h; cases h; done) | skip
  rename_i x h
  obtain ⟨v, rfl, k1⟩ := reps1 k
  unfold intV at p
  split at p
  · cases k1
    exact call_int1 pins s st H _ us Q I ru (.inl ⟨_, rfl, p.stay w (.int _)⟩)
  · cases k1
    exact call_int1 pins s st H _ us Q I ru (.inr ⟨_, rfl, p.stay w (.int _)⟩)
  · cases k1
    split at p
    · rename_i n hn
      split at p
      · rename_i hz
        exact call_int_str pins s st H _ us Q I ru ⟨_, n, rfl, hn, hz, p.stay w (.int _)⟩
      · exact p.elim
    · exact p.elim
  · exact p.elim
theorem cb_abs : CallR X (.builtin "abs") (RB F .abs) := by
  rintro pins s st H vs us Q I ru ⟨J, r, S, xs, st', W, w, k, p⟩
  unfold bltV at p
  split at p <;> first | exact p.elim | (rename_i h; cases h; done) | skip
  obtain ⟨v, rfl, k1⟩ := reps1 k
  cases k1
  exact call_abs pins s st H _ us Q I ru ⟨_, rfl, p.stay w (.int _)⟩
theorem cb_max2 (hc : X.calm = true) : CallR X (.builtin "max") (RB F .max2) := by
  rintro pins s st H vs us Q I ru ⟨J, r, S, xs, st', W, w, k, p⟩
  unfold bltV at p
  split at p <;> first | exact p.elim | (rename_i h; cases h; done) | skip
  obtain ⟨v, u, rfl, k1, k2⟩ := reps2 k
  cases k1
  cases k2
  exact call_max2 hc pins s st H _ us Q I ru ⟨_, _, rfl, p.stay w (.int _)⟩
theorem cb_min2 (hc : X.calm = true) : CallR X (.builtin "min") (RB F .min2) := by
  rintro pins s st H vs us Q I ru ⟨J, r, S, xs, st', W, w, k, p⟩
  unfold bltV at p
  split at p <;> first | exact p.elim | (rename_i h; cases h; done) | skip
  obtain ⟨v, u, rfl, k1, k2⟩ := reps2 k
  cases k1
  cases k2
  exact call_min2 hc pins s st H _ us Q I ru ⟨_, _, rfl, p.stay w (.int _)⟩
theorem cb_str : CallR X (.type "str") (RB F .str) := by
  rintro pins s st H vs us Q I ru ⟨J, r, S, xs, st', W, w, k, p⟩
  unfold bltV at p
  split at p <;> first | exact p.elim | (rename_i h; cases h; done) | skip
  obtain ⟨v, rfl, k1⟩ := reps1 k
  unfold strV at p
  split at p
  · cases k1
    split at p
    · rename_i hz
      exact call_str_int pins s st H _ us Q I ru ⟨_, rfl, hz, p.stay w (.str _)⟩
    · exact p.elim
  · exact p.elim
theorem cb_tuple (hK : F.K = X.K) : CallR X (.type "tuple") (RB F .tuple) := by
  rintro pins s st H vs us Q I ru ⟨J, r, S, xs, st', W, w, k, p⟩
  unfold bltV at p
  split at p <;> first | exact p.elim | (rename_i h; cases h; done) | skip
  obtain ⟨v, rfl, k1⟩ := reps1 k
  unfold tupleV at p
  split at p
  · cases k1 with
    | tup q t => exact call_tuple_of pins s st H _ us Q I ru ⟨_, _, rfl, .inr ⟨hK ▸ sqT_H w q, p.stay w (.tup q t)⟩⟩
  · cases k1 with
    | lst q t => exact call_tuple_of pins s st H _ us Q I ru ⟨_, _, rfl, .inl ⟨SqL.of (w.sub _ _ q), p.newT w t⟩⟩
  · split at p
    · rename_i e0
      obtain ⟨q, ys, rfl, hq, t⟩ := seq_of hK w k1 e0
      exact call_tuple_of pins s st H _ us Q I ru ⟨_, _, rfl, .inl ⟨SqL.of hq, p.newT w t⟩⟩
    · exact p.elim
  · exact p.elim
theorem cb_listV (hK : F.K = X.K) {bb : Bool} : CallR X (.type "list") (fun vs H Q => ∃ J r S x v st W, vs = [v] ∧ Wo F H J r S ∧ Rep F J r x v ∧ PoE F W st H J r (listV bb x S) Q) := by
  rintro pins s st H vs us Q I ru ⟨J, r, S, x, v, st', W, rfl, w, k, p⟩
  unfold listV at p
  split at p
  · cases k with
    | tup q t => exact call_list_of pins s st H _ us Q I ru ⟨_, _, rfl, .inr (hK ▸ sqT_H w q), (mkL_ok w t p).2⟩
  · cases k with
    | lst q t => exact call_list_of pins s st H _ us Q I ru ⟨_, _, rfl, .inl (SqL.of (w.sub _ _ q)), (mkL_ok w t p).2⟩
  · split at p
    · rename_i e0
      obtain ⟨q, ys, rfl, hq, t⟩ := seq_of hK w k e0
      exact call_list_of pins s st H _ us Q I ru ⟨_, _, rfl, .inl (SqL.of hq), (mkL_ok w t p).2⟩
    · exact p.elim
  · exact p.elim
theorem cb_list (hK : F.K = X.K) : CallR X (.type "list") (RB F .list) := by
  rintro pins s st H vs us Q I ru ⟨J, r, S, xs, st', W, w, k, p⟩
  unfold bltV at p
  split at p <;> first | exact p.elim | (rename_i h; cases h; done) | skip
  obtain ⟨v, rfl, k1⟩ := reps1 k
  exact cb_listV hK pins s st H _ us Q I ru ⟨J, r, S, _, v, st', W, rfl, w, k1, p⟩
theorem cb_listR (hK : F.K = X.K) : CallR X (.type "list") (RB F .listR) := by
  rintro pins s st H vs us Q I ru ⟨J, r, S, xs, st', W, w, k, p⟩
  unfold bltV at p
  split at p <;> first | exact p.elim | (rename_i h; cases h; done) | skip
  obtain ⟨v, rfl, k1⟩ := reps1 k
  exact cb_listV hK pins s st H _ us Q I ru ⟨J, r, S, _, v, st', W, rfl, w, k1, p⟩
theorem ints_rep {F : Fx} {J : Hp} {r : List Addr} : ∀ {xs : List Val} {vs : List V} {is : List Int}, Reps F J r xs vs → ints? xs = some is → vs = is.map V.int
  | _, _, _, .nil, e => by cases e; rfl
  | _, _, is, .cons (x := x) (xs := xs) a b, e => by
    unfold ints? at e
    split at e
    · rename_i h; cases h
    · rename_i i r' h
      cases h
      simp only [Option.map_eq_some_iff] at e
      obtain ⟨js, e1, rfl⟩ := e
      cases a
      rw [ints_rep b e1]
      rfl
    · cases e
theorem bls_rep {F : Fx} {J : Hp} {r : List Addr} : ∀ {xs : List Val} {vs : List V} {is : List Bool}, Reps F J r xs vs → bls? xs = some is → vs = is.map V.bl
  | _, _, _, .nil, e => by cases e; rfl
  | _, _, is, .cons (x := x) (xs := xs) a b, e => by
    unfold bls? at e
    split at e
    · rename_i h; cases h
    · rename_i i r' h
      cases h
      simp only [Option.map_eq_some_iff] at e
      obtain ⟨js, e1, rfl⟩ := e
      cases a
      rw [bls_rep b e1]
      rfl
    · cases e
theorem strs_rep {F : Fx} {J : Hp} {r : List Addr} : ∀ {xs : List Val} {vs : List V} {is : List Str}, Reps F J r xs vs → strs? xs = some is → vs = is.map V.str
  | _, _, _, .nil, e => by cases e; rfl
  | _, _, is, .cons (x := x) (xs := xs) a b, e => by
    unfold strs? at e
    split at e
    · rename_i h; cases h
    · rename_i i r' h
      cases h
      simp only [Option.map_eq_some_iff] at e
      obtain ⟨js, e1, rfl⟩ := e
      cases a
      rw [strs_rep b e1]
      rfl
    · cases e
theorem cb_sum (hc : X.calm = true) : CallR X (.builtin "sum") (RB F .sum) := by
  rintro pins s st H vs us Q I ru ⟨J, r, S, xs, st', W, w, k, p⟩
  unfold bltV at p
  split at p <;> first | exact p.elim | (rename_i h; cases h; done) | skip
  obtain ⟨v, rfl, k1⟩ := reps1 k
  unfold sumV at p
  split at p
  · rename_i ys hs
    split at p
    · rename_i is hi
      obtain ⟨q, zs, rfl, hq, t⟩ := seqL_at w k1 hs
      rw [ints_rep t hi] at hq
      exact cr_sum hc pins s st H _ us Q I ru ⟨q, is, rfl, SqL.of hq, p.stay w (.int _)⟩
    · exact p.elim
  · exact p.elim
theorem fold_max : ∀ (is : List Int) (i m : Int), m ∈ i :: is → (∀ y, y ∈ i :: is → y ≤ m) → m = is.foldl max i
  | [], i, m, h, _ => by simpa using h
  | j :: is, i, m, h, hy => by
    rw [List.foldl_cons]
    refine fold_max is (max i j) m ?_ fun y hy' => ?_
    · have h1 := hy i (by simp)
      have h2 := hy j (by simp)
      rcases List.mem_cons.mp h with rfl | h
      · rw [Int.max_eq_left h2]; simp
      · rcases List.mem_cons.mp h with rfl | h
        · rw [Int.max_eq_right h1]; simp
        · exact List.mem_cons_of_mem _ h
    · rcases List.mem_cons.mp hy' with rfl | h'
      · have h1 := hy i (by simp)
        have h2 := hy j (by simp)
        omega
      · exact hy y (by simp [h'])
theorem fold_min : ∀ (is : List Int) (i m : Int), m ∈ i :: is → (∀ y, y ∈ i :: is → m ≤ y) → m = is.foldl min i
  | [], i, m, h, _ => by simpa using h
  | j :: is, i, m, h, hy => by
    rw [List.foldl_cons]
    refine fold_min is (min i j) m ?_ fun y hy' => ?_
    · have h1 := hy i (by simp)
      have h2 := hy j (by simp)
      rcases List.mem_cons.mp h with rfl | h
      · rw [Int.min_eq_left h2]; simp
      · rcases List.mem_cons.mp h with rfl | h
        · rw [Int.min_eq_right h1]; simp
        · exact List.mem_cons_of_mem _ h
    · rcases List.mem_cons.mp hy' with rfl | h'
      · have h1 := hy i (by simp)
        have h2 := hy j (by simp)
        omega
      · exact hy y (by simp [h'])
theorem cb_maxL (hc : X.calm = true) : CallR X (.builtin "max") (RB F .maxL) := by
  rintro pins s st H vs us Q I ru ⟨J, r, S, xs, st', W, w, k, p⟩
  unfold bltV at p
  split at p <;> first | exact p.elim | (rename_i h; cases h; done) | skip
  obtain ⟨v, rfl, k1⟩ := reps1 k
  unfold maxV at p
  split at p
  · rename_i ys hs
    split at p
    · rename_i i is hi
      obtain ⟨q, zs, rfl, hq, t⟩ := seqL_at w k1 hs
      rw [ints_rep t hi] at hq
      refine cr_max hc pins s st H _ us Q I ru ⟨q, i :: is, rfl, SqL.of hq, by simp, fun m h1 h2 => ?_⟩
      rw [fold_max is i m h1 h2]
      exact p.stay w (.int _)
    · exact p.elim
  · exact p.elim
theorem cb_minL (hc : X.calm = true) : CallR X (.builtin "min") (RB F .minL) := by
  rintro pins s st H vs us Q I ru ⟨J, r, S, xs, st', W, w, k, p⟩
  unfold bltV at p
  split at p <;> first | exact p.elim | (rename_i h; cases h; done) | skip
  obtain ⟨v, rfl, k1⟩ := reps1 k
  unfold minV at p
  split at p
  · rename_i ys hs
    split at p
    · rename_i i is hi
      obtain ⟨q, zs, rfl, hq, t⟩ := seqL_at w k1 hs
      rw [ints_rep t hi] at hq
      refine cr_min hc pins s st H _ us Q I ru ⟨q, i :: is, rfl, SqL.of hq, by simp, fun m h1 h2 => ?_⟩
      rw [fold_min is i m h1 h2]
      exact p.stay w (.int _)
    · exact p.elim
  · exact p.elim
theorem cb_all (hc : X.calm = true) : CallR X (.builtin "all") (RB F .all) := by
  rintro pins s st H vs us Q I ru ⟨J, r, S, xs, st', W, w, k, p⟩
  unfold bltV at p
  split at p <;> first | exact p.elim | (rename_i h; cases h; done) | skip
  obtain ⟨v, rfl, k1⟩ := reps1 k
  unfold allV at p
  split at p
  · rename_i ys hs
    split at p
    · rename_i is hi
      obtain ⟨q, zs, rfl, hq, t⟩ := seqL_at w k1 hs
      rw [bls_rep t hi] at hq
      exact cr_all hc pins s st H _ us Q I ru ⟨q, is, rfl, SqL.of hq, p.stay w (.bl _)⟩
    · exact p.elim
  · exact p.elim
theorem cb_any (hc : X.calm = true) : CallR X (.builtin "any") (RB F .any) := by
  rintro pins s st H vs us Q I ru ⟨J, r, S, xs, st', W, w, k, p⟩
  unfold bltV at p
  split at p <;> first | exact p.elim | (rename_i h; cases h; done) | skip
  obtain ⟨v, rfl, k1⟩ := reps1 k
  unfold anyV at p
  split at p
  · rename_i ys hs
    split at p
    · rename_i is hi
      obtain ⟨q, zs, rfl, hq, t⟩ := seqL_at w k1 hs
      rw [bls_rep t hi] at hq
      exact cr_any hc pins s st H _ us Q I ru ⟨q, is, rfl, SqL.of hq, p.stay w (.bl _)⟩
    · exact p.elim
  · exact p.elim
/-! ### repr -/
theorem allD_len {f : Val → Option PyData} : ∀ {xs : List Val} {ds : List PyData}, allD f xs = some ds → ds.length = xs.length
  | [], _, e => by cases e; rfl
  | x :: xs, ds, e => by
    unfold allD at e
    cases g1 : f x with
    | none => rw [g1] at e; cases e
    | some d =>
      cases g2 : allD f xs with
      | none => rw [g1, g2] at e; cases e
      | some ds' =>
        rw [g1, g2] at e
        cases e
        exact congrArg (· + 1) (allD_len g2)
theorem rds_all (I : Inv X pins st H s) (f : Val → Option PyData) (ih : ∀ x v d u, Rep F J r x v → f x = some d → RelV v u → ∃ as, Reads s.heap u d as ∧ ∀ a ∈ as, H a ≠ none) :
    ∀ {xs : List Val} {vs : List V} {ds : List PyData} {us : List Value}, Reps F J r xs vs → allD f xs = some ds → Vals vs us → ∃ as, ReadsAll s.heap us ds as ∧ ∀ a ∈ as, H a ≠ none
  | _, _, _, _, .nil, e, q => by cases e; cases q; exact ⟨[], .nil, fun _ h => nomatch h⟩
  | _, _, ds, _, .cons (x := x) (xs := xs) a b, e, q => by
    cases q with
    | cons q1 q2 =>
      unfold allD at e
      cases g1 : f x with
      | none => rw [g1] at e; cases e
      | some d =>
        cases g2 : allD f xs with
        | none => rw [g1, g2] at e; cases e
        | some ds' =>
          rw [g1, g2] at e
          cases e
          obtain ⟨as, k1, k2⟩ := ih _ _ _ _ a g1 q1
          obtain ⟨bs, k3, k4⟩ := rds_all I f ih b g2 q2
          refine ⟨as ++ bs, .cons k1 k3, fun z hz => ?_⟩
          rcases List.mem_append.mp hz with hz | hz
          · exact k2 z hz
          · exact k4 z hz
theorem rd_keys {P : Program} {wd : World} {h : Heap} : ∀ {es : List DictEntry} {kvs : List (Key × V)} {vs : List (Key × Value)}, KV kvs vs → Pairs (mixKind P wd) es vs →
    ReadsAll h (es.map (·.key)) (kvs.map fun q => keyD q.1) [] ∧ Vals (kvs.map (·.2)) (es.map (·.val))
  | _, _, _, .nil, .nil => ⟨.nil, .nil⟩
  | _, _, _, .cons (b := q) q1 q2, .cons (e := e) p1 p2 p3 => by
    obtain ⟨k1, k2⟩ := rd_keys (h := h) q2 p3
    refine ⟨?_, .cons (by show RelV _ e.val; rw [p2]; exact q1.2) k2⟩
    refine ReadsAll.cons (as := []) (bs := []) ?_ k1
    show Reads h e.key (keyD _) []
    rw [q1.1]
    rw [mixKind_is] at p1
    rcases keyIs_shape p1 with ⟨i, t, e1, e2⟩ | ⟨x, t, e1, e2⟩
    · rw [e1, e2]; exact .int _ _
    · rw [e1, e2]; exact .str _ _
theorem rds (hK : F.K = X.K) (I : Inv X pins st H s) (w : Wo F H J r S) : ∀ (n : Nat) (x : Val) (v : V) (d : PyData) (u : Value), Rep F J r x v → toD S n x = some d → RelV v u → ∃ as, Reads s.heap u d as ∧ ∀ a ∈ as, H a ≠ none
  | 0, _, _, _, _, _, e, _ => by cases e
  | n + 1, x, v, d, u, k, e, q => by
    have lists : ∀ {a : Addr} {xs : List Val} {vs : List V} {ds : List PyData}, H a = some (.lst vs) → Reps F J r xs vs → allD (toD S n) xs = some ds → RelV (V.ref a) u → ∃ as, Reads s.heap u (.list ds) as ∧ ∀ a ∈ as, H a ≠ none := fun {a xs vs ds} h t e1 q => by
      cases q
      obtain ⟨its, rv, ⟨o, m, ho, hc, hd, hdat⟩, _⟩ := I.list (SqL.of h)
      obtain ⟨as, k1, k2⟩ := rds_all I (toD S n) (rds hK I w n) t e1 rv
      refine ⟨a :: as, .list ho hc hdat (by simpa using k1), fun z hz => ?_⟩
      rcases List.mem_cons.mp hz with rfl | hz
      · rw [h]; exact fun z => nomatch z
      · exact k2 z hz
    cases k with
    | non => cases e; cases q; exact ⟨[], .none, fun _ h => nomatch h⟩
    | bl b => cases e; cases q; exact ⟨[], .bool _, fun _ h => nomatch h⟩
    | int i => cases e; obtain ⟨t, rfl⟩ := q; exact ⟨[], .int _ _, fun _ h => nomatch h⟩
    | str z => cases e; obtain ⟨t, rfl⟩ := q; exact ⟨[], .str _ _, fun _ h => nomatch h⟩
    | tup g t =>
      simp only [toD, Option.map_eq_some_iff] at e
      obtain ⟨ds, e1, rfl⟩ := e
      cases q
      obtain ⟨its, rv, ⟨o, ho, hc, m, hdat⟩, _⟩ := I.tuple (hK ▸ sqT_H w g)
      obtain ⟨as, k1, k2⟩ := rds_all I (toD S n) (rds hK I w n) t e1 rv
      exact ⟨as, .tuple ho hc hdat (by simpa using k1), k2⟩
    | lst g t =>
      simp only [toD, Option.map_eq_some_iff] at e
      obtain ⟨ds, e1, rfl⟩ := e
      exact lists (w.sub _ _ g) t e1 q
    | scr g t => cases e
    | ref g =>
      simp only [toD] at e
      split at e
      · rename_i xs e0
        simp only [Option.map_eq_some_iff] at e
        obtain ⟨ds, e1, rfl⟩ := e
        obtain ⟨b, e2, vs, e3, t⟩ := w.obs _ _ e0
        rw [g] at e2
        cases e2
        exact lists e3 t e1 q
      · rename_i ks xs e0
        simp only [Option.map_eq_some_iff] at e
        obtain ⟨ds, e1, rfl⟩ := e
        obtain ⟨b, e2, vs, e3, t, hl⟩ := w.obs _ _ e0
        rw [g] at e2
        cases e2
        cases q
        obtain ⟨_, hsys, vs', kv, o, es, ep, ho, ex, hdat, _, hp, _⟩ := dk_of I.hok e3
        obtain ⟨k1, k2⟩ := rd_keys (h := s.heap) kv hp
        have hlen : ks.length = vs.length := by rw [hl, t.length]
        have hfst : (ks.zip vs).map (fun q => keyD q.1) = ks.map keyD := by
          rw [show (fun q : Key × V => keyD q.1) = keyD ∘ Prod.fst from rfl, ← List.map_map, List.map_fst_zip (by omega)]
        rw [hfst] at k1
        rw [List.map_snd_zip (by omega)] at k2
        obtain ⟨as, k3, k4⟩ := rds_all I (toD S n) (rds hK I w n) t e1 k2
        have hds : ds.length = ks.length := by rw [allD_len e1, ← hl]
        refine ⟨_, Reads.dict (kvs := (ks.map keyD).zip ds) (as := []) (bs := as) ho ex.1 hdat ?_ ?_, fun z hz => ?_⟩
        · rw [List.map_fst_zip (by rw [List.length_map]; omega)]; exact k1
        · rw [List.map_snd_zip (by rw [List.length_map]; omega)]; exact k3
        · rcases List.mem_append.mp hz with hz | hz
          · rcases List.mem_cons.mp hz with rfl | hz
            · rw [e3]; exact fun z => nomatch z
            · cases hz
          · exact k4 z hz
      · cases e
    | fn f => cases e
    | exc _ _ => cases e
theorem cb_repr (sx : Sx F X) : CallR X (.builtin "repr") (RB F .repr) := by
  rintro pins s st H vs us Q I ru ⟨J, r, S, xs, st', W, w, k, p⟩
  unfold bltV at p
  split at p <;> first | exact p.elim | (rename_i h; cases h; done) | skip
  obtain ⟨v, rfl, k1⟩ := reps1 k
  unfold reprV at p
  split at p
  · rename_i d hd
    split at p
    · rename_i hz
      obtain ⟨hs, hdp, hlen⟩ := hz
      obtain ⟨u, rfl, ru1⟩ := Vals.one ru
      obtain ⟨as, rd, has⟩ := rds sx.hK I w 12 _ _ _ _ k1 hd ru1
      have fin : ∀ t (k : Nat), RelV (.str d.shown) (.str d.shown t) := fun t k => ⟨t, rfl⟩
      have fr := sx.sm.free I.kIn
      have un : X.A.units + (d.depth + 1) < cLine := by have := sx.un; omega
      have fq : ∀ (g' : Heap) (t' : Tok) (m : Tok), (∀ b o, s.heap.get? b = some o → g'.get? b = some o) → EP X pins st Q (.str d.shown t') { s with heap := g', toks := m } := fun g' t' m hk => ⟨.str d.shown, H, I.kept hk, ⟨t', rfl⟩, p.stay w (.str _)⟩
      have refs : ∀ {a : Addr}, u = .ref a → wpAny (model X.prog X.w) X.A (call (.builtin "repr") [u]) (EP X pins st Q) X.xe s := fun {a} e => by
        rw [e] at rd ⊢
        rcases hs with hs | hs
        · refine PySem.repr_of_reads' rd hs (fun _ hm => ?_) sx.gd un (fun _ _ e => e) fq hlen
          obtain ⟨o, ho⟩ := sx.sm.1
          exact has _ hm (I.bs _ o (I.mod.kin _ _ ho)).2
        · exact big_repr fr rd hs hlen sx.gd un (fun _ _ e => e) fq
      cases rd with
      | none => exact P.repr_of_none ⟨.str _, H, I.tok _, ⟨_, rfl⟩, p.stay w (.str _)⟩
      | bool b => exact P.repr_of_bool ⟨.str _, H, I.tok _, ⟨_, rfl⟩, p.stay w (.str _)⟩
      | int i t =>
        have hi : i.natAbs.log2 < 12000 := by
          rcases hs with hs | hs
          · have : i.natAbs.log2 < 1920 := by simpa [PyData.showable] using hs
            omega
          · unfold big at hs; exact of_decide_eq_true hs
        exact big_call fr hi (by omega) ⟨.str _, H, I.tok _, ⟨_, rfl⟩, p.stay w (.str _)⟩
      | str x t => exact P.repr_of_str ⟨.str _, H, I.tok _, ⟨_, rfl⟩, p.stay w (.str _)⟩ hlen
      | list _ _ _ _ => exact refs rfl
      | tuple _ _ _ _ => exact refs rfl
      | dict _ _ _ _ _ => exact refs rfl
    · exact p.elim
  · exact p.elim
end
end GW
/-! Core 9: built-in functions and methods as expressions. -/
namespace GW
open PySem L2
def okXs : List Expr → Bool
  | [] => true
  | x :: xs => okX x && okXs xs
theorem okXs_any (pos : Pos) (env : Env) : ∀ {es : List Expr}, okXs es = true → (backTo pos (starEach es env)).any (·.1) = false
  | [], _ => rfl
  | x :: xs, h => by
    obtain ⟨h1, h2⟩ := Bool.and_eq_true_iff.mp h
    rw [okX_star h1]
    show (false || (backTo pos (starEach xs env)).any (·.1)) = false
    rw [okXs_any pos env h2]
    rfl
theorem okXs_all (pos : Pos) (env : Env) : ∀ {es : List Expr}, okXs es = true → (backTo pos (starEach es env)).all (fun x => !x.1) = true
  | [], _ => rfl
  | x :: xs, h => by
    obtain ⟨h1, h2⟩ := Bool.and_eq_true_iff.mp h
    rw [okX_star h1]
    show (true && (backTo pos (starEach xs env)).all (fun x => !x.1)) = true
    rw [okXs_all pos env h2]
    rfl
section
variable {F : Fx} {X : Cx} {W : WS} {pins : List (Addr × Obj)} {s : Shared} {st : L2.St} {H J H1 J1 : Hp} {r r1 : List Addr} {S : Store}
variable {a b c e : Expr} {es : List Expr} {pos : Pos}
theorem TAA.mono {f : Enm → Store → Res (List Val)} {Q Q' : List V → Hp → Prop} (h : ∀ vs H, Q vs H → Q' vs H) (p : TAA F W f st H Q) : TAA F W f st H Q' := by
  obtain ⟨en, S, J, r, w, e, p⟩ := p
  refine ⟨en, S, J, r, w, e, ?_⟩
  cases h2 : f en S with
  | ok v S1 => rw [h2] at p; exact fun H' J' r' ws a b c => h _ _ (p H' J' r' ws a b c)
  | exc c fs S1 => rw [h2] at p; exact p
  | stk => rw [h2] at p; exact p
theorem TT.mono {f : Enm → Store → Res Val} {Q Q' : VK} (h : ∀ vs H, Q vs H → Q' vs H) (p : TT F W f st H Q) : TT F W f st H Q' := by
  obtain ⟨en, S, J, r, w, e, p⟩ := p
  refine ⟨en, S, J, r, w, e, ?_⟩
  cases h2 : f en S with
  | ok v S1 => rw [h2] at p; exact fun H' J' r' ws a b c => h _ _ (p H' J' r' ws a b c)
  | exc c fs S1 => rw [h2] at p; exact p
  | stk => rw [h2] at p; exact p
theorem sd_bltB {f : Blt} {id : String} {x : Str} {p : Pos} (hc : CallR X (.builtin id) (RB F f)) (hg : Gl X x) (hm : X.mg x = none) (hv : bootBuiltins x = some (.builtin id)) (hn : x ≠ "__name__") (hd : (x == ("__debug__" : Str)) = false)
    (hx : okXs (e :: es) = true) {fs : Enm → Store → Res (List Val)} (ha : PA X (e :: es) (TAA F W fs)) : PE X (.Call (.Name x p) (e :: es) [] pos) (TT F W fun en S => (fs en S).bind fun xs S1 => bltV f xs S1) := by
  obtain ⟨h1, h2⟩ := Bool.and_eq_true_iff.mp hx
  exact ⟨fun pins s st H Q I q => (pe_callB hc hg hm hv ha hn hd (okX_star h1 _ _) (okXs_any _ _ h2)).run pins s st H Q I (TAA.mono (fun vs H1 ⟨en, J1, r1, S1, xs, _, w, k, p⟩ => ⟨J1, r1, S1, xs, st, W, w, k, p⟩) (TT.ofA (g := fun _ xs S1 => bltV f xs S1) q))⟩
theorem sd_bltT {f : Blt} {id : String} {x : Str} {p : Pos} (hc : CallR X (.type id) (RB F f)) (hg : Gl X x) (hm : X.mg x = none) (hv : bootBuiltins x = some (.type id)) (hn : x ≠ "__name__") (hd : (x == ("__debug__" : Str)) = false)
    (hx : okXs (e :: es) = true) {fs : Enm → Store → Res (List Val)} (ha : PA X (e :: es) (TAA F W fs)) : PE X (.Call (.Name x p) (e :: es) [] pos) (TT F W fun en S => (fs en S).bind fun xs S1 => bltV f xs S1) := by
  obtain ⟨h1, h2⟩ := Bool.and_eq_true_iff.mp hx
  exact ⟨fun pins s st H Q I q => (pe_callTy hc hg hm hv ha hn hd (okX_star h1 _ _) (okXs_any _ _ h2)).run pins s st H Q I (TAA.mono (fun vs H1 ⟨en, J1, r1, S1, xs, _, w, k, p⟩ => ⟨J1, r1, S1, xs, st, W, w, k, p⟩) (TT.ofA (g := fun _ xs S1 => bltV f xs S1) q))⟩
def Blt.nm (f : Blt) : Str := match f with
  | .len => "len" | .int => "int" | .abs => "abs" | .max2 => "max" | .min2 => "min" | .maxL => "max" | .minL => "min" | .str => "str" | .repr => "repr" | .tuple => "tuple" | .list => "list" | .listR => "list" | .sum => "sum" | .all => "all" | .any => "any"
def Blt.stir : Blt → Bool
  | .max2 => true | .min2 => true | .maxL => true | .minL => true | .sum => true | .all => true | .any => true | _ => false
theorem sd_blt (sx : Sx F X) (f : Blt) (hc : f.stir = true → X.calm = true) {p : Pos} (hg : Gl X f.nm) (hm : X.mg f.nm = none)
    (hx : okXs (e :: es) = true) {fs : Enm → Store → Res (List Val)} (ha : PA X (e :: es) (TAA F W fs)) : PE X (.Call (.Name f.nm p) (e :: es) [] pos) (TT F W fun en S => (fs en S).bind fun xs S1 => bltV f xs S1) := by
  cases f with
  | len => exact sd_bltB (id := "len") (cb_len sx.hK) hg hm rfl (by decide) (by decide) hx ha
  | int => exact sd_bltT (id := "int") cb_int hg hm rfl (by decide) (by decide) hx ha
  | abs => exact sd_bltB (id := "abs") cb_abs hg hm rfl (by decide) (by decide) hx ha
  | max2 => exact sd_bltB (id := "max") (cb_max2 (hc rfl)) hg hm rfl (by decide) (by decide) hx ha
  | min2 => exact sd_bltB (id := "min") (cb_min2 (hc rfl)) hg hm rfl (by decide) (by decide) hx ha
  | maxL => exact sd_bltB (id := "max") (cb_maxL (hc rfl)) hg hm rfl (by decide) (by decide) hx ha
  | minL => exact sd_bltB (id := "min") (cb_minL (hc rfl)) hg hm rfl (by decide) (by decide) hx ha
  | str => exact sd_bltT (id := "str") cb_str hg hm rfl (by decide) (by decide) hx ha
  | repr => exact sd_bltB (id := "repr") (cb_repr sx) hg hm rfl (by decide) (by decide) hx ha
  | tuple => exact sd_bltT (id := "tuple") (cb_tuple sx.hK) hg hm rfl (by decide) (by decide) hx ha
  | list => exact sd_bltT (id := "list") (cb_list sx.hK) hg hm rfl (by decide) (by decide) hx ha
  | listR => exact sd_bltT (id := "list") (cb_listR sx.hK) hg hm rfl (by decide) (by decide) hx ha
  | sum => exact sd_bltB (id := "sum") (cb_sum (hc rfl)) hg hm rfl (by decide) (by decide) hx ha
  | all => exact sd_bltB (id := "all") (cb_all (hc rfl)) hg hm rfl (by decide) (by decide) hx ha
  | any => exact sd_bltB (id := "any") (cb_any (hc rfl)) hg hm rfl (by decide) (by decide) hx ha
/-! ### methods -/
def RM (F : Fx) (m : Mth) : V → List V → Hp → VK → Prop := fun v vs H Q => ∃ J r S x xs st W, Wo F H J r S ∧ Rep F J r x v ∧ Reps F J r xs vs ∧ PoE F W st H J r (mthV m x xs S) Q
theorem lstAt_ok (w : Wo F H J r S) {o : Val} {v : V} {l : Nat} {zs : List Val} (k : Rep F J r o v) (h : lstAt S o = some (l, zs)) : ∃ p vs, v = .ref p ∧ r[l]? = some p ∧ H p = some (.lst vs) ∧ Reps F J r zs vs := by
  unfold lstAt at h
  split at h
  · split at h
    · rename_i e0
      cases h
      cases k with
      | ref q =>
        obtain ⟨b', e2, vs, e3, t⟩ := w.obs _ _ e0
        rw [q] at e2
        cases e2
        exact ⟨_, vs, rfl, q, e3, t⟩
    · cases h
  · cases h
theorem wrL_ok (w : Wo F H J r S) {l : Nat} {p : Addr} {zs : List Val} {vs : List V} {x : Val} {v : V} {Q : VK} (e0 : r[l]? = some p) (t : Reps F J r zs vs) (k : Rep F J r x v) (h : PoE F W st H J r (wrL l zs x S) Q) : Q v (upd H p (.lst vs)) := by
  obtain ⟨w2, l2⟩ := w.wr (u := .lst vs) (o := .lst zs) e0 ⟨vs, upd_same, t⟩
  exact h _ _ _ _ w2 l2 k
theorem Reps.dropLast {F : Fx} {J : Hp} {r : List Addr} {xs : List Val} {vs : List V} (t : Reps F J r xs vs) : Reps F J r xs.dropLast vs.dropLast := by
  rw [List.dropLast_eq_take, List.dropLast_eq_take, t.length]
  exact t.take _
theorem Reps.reverse {F : Fx} {J : Hp} {r : List Addr} : ∀ {xs : List Val} {vs : List V}, Reps F J r xs vs → Reps F J r xs.reverse vs.reverse
  | _, _, .nil => .nil
  | _, _, .cons a b => by
    rw [List.reverse_cons, List.reverse_cons]
    exact (Reps.reverse b).app (.cons a .nil)
theorem reps0 {F : Fx} {J : Hp} {r : List Addr} {vs : List V} (k : Reps F J r [] vs) : vs = [] := by cases k; rfl
theorem reps_strs {F : Fx} {J : Hp} {r : List Addr} : ∀ ys : List Str, Reps F J r (ys.map Val.str) (ys.map V.str)
  | [] => .nil
  | y :: ys => .cons (.str y) (reps_strs ys)
theorem mth_ofL {m : Mth} {id : String} (hl : m.isL = true) {r0 : V → List V → Hp → VK → Prop} (h : MtM X id r0)
    (k : ∀ {J r S H l p zs vs xs us st W Q}, Wo F H J r S → r[l]? = some p → H p = some (.lst vs) → Reps F J r zs vs → Reps F J r xs us → PoE F W st H J r (mthL m l zs xs S) Q → r0 (.ref p) us H Q) : MtR X id (RM F m) := by
  rintro pins s st H v vs u us Q I rv ru ⟨J, r, S, x, xs, st', W, w, kx, kxs, p⟩
  unfold mthV at p
  rw [if_pos hl] at p
  split at p
  · rename_i l zs e
    obtain ⟨q, ys, rfl, e0, e1, t⟩ := lstAt_ok w kx e
    exact h pins s st H _ vs u us Q I rv ru (k w e0 e1 t kxs p)
  · exact p.elim
theorem mth_ofS {m : Mth} {id : String} (hl : m.isL = false) {r0 : V → List V → Hp → VK → Prop} (h : MtR X id r0)
    (k : ∀ {J r S H z xs us st W Q}, Wo F H J r S → Reps F J r xs us → PoE F W st H J r (mthS m z xs S) Q → r0 (.str z) us H Q) : MtR X id (RM F m) := by
  rintro pins s st H v vs u us Q I rv ru ⟨J, r, S, x, xs, st', W, w, kx, kxs, p⟩
  unfold mthV at p
  rw [if_neg (by rw [hl]; decide)] at p
  split at p
  · rename_i z e
    have e1 : x = .str z := by
      unfold strAt at e
      split at e
      · cases e; rfl
      · cases e
    subst e1
    cases kx
    exact h pins s st H _ vs u us Q I rv ru (k w kxs p)
  · exact p.elim
theorem md_append : MtR X "list.append" (RM F .append) := mth_ofL rfl mt_append fun w e0 e1 t k p => by
  unfold mthL at p
  split at p <;> first | exact p.elim | (rename_i h; cases h; done) | skip
  obtain ⟨v, rfl, k1⟩ := reps1 k
  split at p
  · rename_i hz
    exact ⟨_, _, v, rfl, rfl, e1, by rw [t.length]; exact hz, wrL_ok w e0 (t.app (.cons k1 .nil)) .non p⟩
  · exact p.elim
theorem md_pop : MtR X "list.pop" (RM F .pop) := mth_ofL rfl mt_pop fun w e0 e1 t k p => by
  unfold mthL at p
  split at p <;> first | exact p.elim | (rename_i h; cases h; done) | skip
  cases reps0 k
  split at p
  · rename_i y hy
    obtain ⟨vy, g1, g2⟩ := t.get hy
    exact ⟨_, _, vy, rfl, rfl, e1, by rw [t.length]; exact g1, wrL_ok w e0 t.dropLast g2 p⟩
  · exact p.elim
theorem md_popAt : MtR X "list.pop" (RM F .popAt) := mth_ofL rfl mt_popAt fun w e0 e1 t k p => by
  unfold mthL at p
  split at p <;> first | exact p.elim | (rename_i h; cases h; done) | skip
  obtain ⟨v, rfl, k1⟩ := reps1 k
  cases k1
  split at p
  · rename_i kk hk
    split at p
    · rename_i y hy
      split at p
      · rename_i hz
        obtain ⟨vy, g1, g2⟩ := t.get hy
        exact ⟨_, _, _, kk, vy, rfl, rfl, e1, hz.1, hz.2, by rw [t.length]; exact hk, g1, wrL_ok w e0 (t.eraseIdx kk) g2 p⟩
      · exact p.elim
    · exact p.elim
  · exact p.elim
theorem md_extend : MtR X "list.extend" (RM F .extend) := mth_ofL rfl mt_extend fun w e0 e1 t k p => by
  unfold mthL at p
  split at p <;> first | exact p.elim | (rename_i h; cases h; done) | skip
  obtain ⟨v, rfl, k1⟩ := reps1 k
  split at p
  · rename_i ys hy
    obtain ⟨b, us, rfl, e2, t2⟩ := seqL_at w k1 hy
    split at p
    · rename_i hz
      exact ⟨_, b, _, us, rfl, rfl, e1, e2, by rw [t.length, t2.length]; exact hz, wrL_ok w e0 (t.app t2) .non p⟩
    · exact p.elim
  · exact p.elim
theorem md_reverse : MtR X "list.reverse" (RM F .reverse) := mth_ofL rfl mt_reverse fun w e0 e1 t k p => by
  unfold mthL at p
  split at p <;> first | exact p.elim | (rename_i h; cases h; done) | skip
  cases reps0 k
  exact ⟨_, _, rfl, rfl, e1, wrL_ok w e0 t.reverse .non p⟩
theorem md_clear : MtR X "list.clear" (RM F .clear) := mth_ofL rfl mt_clear fun w e0 e1 t k p => by
  unfold mthL at p
  split at p <;> first | exact p.elim | (rename_i h; cases h; done) | skip
  cases reps0 k
  exact ⟨_, _, rfl, rfl, e1, wrL_ok w e0 .nil .non p⟩
theorem md_upper : MtR X "str.upper" (RM F .upper) := mth_ofS rfl mt_upper fun w k p => by
  unfold mthS at p
  split at p <;> first | exact p.elim | (rename_i h; cases h; done) | skip
  cases reps0 k
  split at p
  · rename_i hz
    exact ⟨_, rfl, rfl, hz, p.stay w (.str _)⟩
  · exact p.elim
theorem md_join : MtR X "str.join" (RM F .join) := mth_ofS rfl mt_join fun w k p => by
  unfold mthS at p
  split at p <;> first | exact p.elim | (rename_i h; cases h; done) | skip
  obtain ⟨v, rfl, k1⟩ := reps1 k
  split at p
  · rename_i ys hy
    obtain ⟨b, us, rfl, e2, t2⟩ := seqL_at w k1 hy
    split at p
    · rename_i ts ht
      split at p
      · rename_i hz
        rw [strs_rep t2 ht] at e2
        exact ⟨_, b, ts, rfl, rfl, .inl (SqL.of e2), hz, p.stay w (.str _)⟩
      · exact p.elim
    · exact p.elim
  · exact p.elim
theorem md_sindex : MtR X "str.index" (RM F .sindex) := mth_ofS rfl mt_sindex fun w k p => by
  unfold mthS at p
  split at p <;> first | exact p.elim | (rename_i h; cases h; done) | skip
  obtain ⟨v, rfl, k1⟩ := reps1 k
  cases k1
  split at p
  · rename_i i rest hi
    exact ⟨_, _, i, rest, rfl, rfl, hi, p.stay w (.int _)⟩
  · exact p.elim
theorem md_split : MtR X "str.split" (RM F .split) := mth_ofS rfl mt_split fun w k p => by
  unfold mthS at p
  split at p <;> first | exact p.elim | (rename_i h; cases h; done) | skip
  obtain ⟨v, rfl, k1⟩ := reps1 k
  cases k1
  split at p
  · rename_i hz
    exact ⟨_, _, rfl, rfl, hz.1, hz.2, p.newL w (reps_strs _)⟩
  · exact p.elim
theorem md_partition : MtR X "str.partition" (RM F .partition) := mth_ofS rfl mt_partition fun w k p => by
  unfold mthS at p
  split at p <;> first | exact p.elim | (rename_i h; cases h; done) | skip
  obtain ⟨v, rfl, k1⟩ := reps1 k
  cases k1
  split at p
  · rename_i hz
    exact ⟨_, _, rfl, rfl, hz.1, hz.2, p.newT w (.cons (.str _) (.cons (.str _) (.cons (.str _) .nil)))⟩
  · exact p.elim
def Mth.T (m : Mth) : String := if m.isL = true then "list" else "str"
def Mth.nm (m : Mth) : Str := match m with
  | .append => "append" | .pop => "pop" | .popAt => "pop" | .extend => "extend" | .reverse => "reverse" | .clear => "clear" | .upper => "upper" | .join => "join" | .sindex => "index" | .split => "split" | .partition => "partition"
theorem ty_mth (w : Wo F H J r S) {m : Mth} {o : Val} {v : V} {K : PySem.W.Frag} (k : Rep F J r o v) (h : tyOk m o S = true) : tyV K m.T v H := by
  unfold tyOk at h
  unfold Mth.T
  split at h
  · rename_i hl
    rw [if_pos hl]
    obtain ⟨⟨l, zs⟩, hz⟩ := Option.isSome_iff_exists.mp h
    obtain ⟨p, vs, rfl, _, e1, _⟩ := lstAt_ok w k hz
    exact .inl ⟨rfl, vs, SqL.of e1⟩
  · rename_i hl
    rw [if_neg hl]
    obtain ⟨z, hz⟩ := Option.isSome_iff_exists.mp h
    unfold strAt at hz
    split at hz
    · cases hz; cases k; rfl
    · cases hz
structure MK (X : Cx) (F : Fx) (m : Mth) (id : String) : Prop where
  pa : PlainAttrs m.T
  slot : Slot m.T m.nm id
  hty : typeOf (.builtin id) = pure (.type "method_descriptor")
  hm : MtR X id (RM F m)
theorem mk_of (X : Cx) (F : Fx) (m : Mth) : ∃ id, MK X F m id := by
  cases m with
  | append => exact ⟨_, PySem.F.plainAttrs_list, PySem.F.slot_list_append, PySem.F.type_list_append, md_append⟩
  | pop => exact ⟨_, PySem.F.plainAttrs_list, PySem.F.slot_list_pop, PySem.F.type_list_pop, md_pop⟩
  | popAt => exact ⟨_, PySem.F.plainAttrs_list, PySem.F.slot_list_pop, PySem.F.type_list_pop, md_popAt⟩
  | extend => exact ⟨_, PySem.F.plainAttrs_list, PySem.F.slot_list_extend, PySem.F.type_list_extend, md_extend⟩
  | reverse => exact ⟨_, PySem.F.plainAttrs_list, PySem.F.slot_list_reverse, PySem.F.type_list_reverse, md_reverse⟩
  | clear => exact ⟨_, PySem.F.plainAttrs_list, PySem.F.slot_list_clear, PySem.F.type_list_clear, md_clear⟩
  | upper => exact ⟨_, PySem.F.plainAttrs_str, PySem.F.slot_str_upper, PySem.F.type_str_upper, md_upper⟩
  | join => exact ⟨_, PySem.F.plainAttrs_str, PySem.F.slot_str_join, PySem.F.type_str_join, md_join⟩
  | sindex => exact ⟨_, PySem.F.plainAttrs_str, PySem.F.slot_str_index, PySem.F.type_str_index, md_sindex⟩
  | split => exact ⟨_, PySem.F.plainAttrs_str, PySem.F.slot_str_split, PySem.F.type_str_split, md_split⟩
  | partition => exact ⟨_, PySem.F.plainAttrs_str, PySem.F.slot_str_partition, PySem.F.type_str_partition, md_partition⟩
theorem sd_mth0 (m : Mth) {apos : Pos} (hx : okA a = true) (hl : (apos.endLine == pos.line) = true) {fa : Enm → Store → Res Val} (ha : PE X a (TT F W fa)) :
    PE X (.Call (.Attribute a m.nm apos) [] [] pos) (TT F W fun en S => (fa en S).bind fun x S1 => if tyOk m x S1 = true then (Res.ok [] S1).bind fun xs S2 => mthV m x xs S2 else .stk) := by
  obtain ⟨id, mk⟩ := mk_of X F m
  refine ⟨fun pins s st H Q I q => (pe_bm0 mk.pa mk.slot mk.hty mk.hm ha (okA_base hx _ _) hl).run pins s st H Q I (TT.mono (fun v H1 ⟨en, J1, r1, S1, x, _, w, k, p⟩ => ?_) (TT.bind (g := fun _ x S1 => if tyOk m x S1 = true then (Res.ok [] S1).bind fun xs S2 => mthV m x xs S2 else .stk) q))⟩
  split at p
  · rename_i ht
    exact ⟨ty_mth w k ht, J1, r1, S1, x, [], st, W, w, k, .nil, p⟩
  · exact p.elim
theorem sd_mth (m : Mth) {apos : Pos} (hx : okA a = true) (hl : (apos.endLine == pos.line) = true) (hxs : okXs (e :: es) = true) (hn : (e :: es).length < 30) {fa : Enm → Store → Res Val} {fs : Enm → Store → Res (List Val)}
    (ha : PE X a (TT F W fa)) (hs : PA X (e :: es) (TAA F W fs)) :
    PE X (.Call (.Attribute a m.nm apos) (e :: es) [] pos) (TT F W fun en S => (fa en S).bind fun x S1 => if tyOk m x S1 = true then (fs en S1).bind fun xs S2 => mthV m x xs S2 else .stk) := by
  obtain ⟨id, mk⟩ := mk_of X F m
  obtain ⟨h1, h2⟩ := Bool.and_eq_true_iff.mp hxs
  refine ⟨fun pins s st H Q I q => (pe_bm mk.pa mk.slot mk.hty mk.hm ha hs (okA_base hx _ _) (by rw [okXs_all _ _ hxs]; simp [backToKw, keywordEach]; simpa using hn) hl (okX_star h1 _ _) (okXs_any _ _ h2)).run pins s st H Q I ?_⟩
  refine TT.mono (fun v H1 ⟨en, J1, r1, S1, x, e1, w, k, p⟩ => ?_) (TT.bind (g := fun en x S1 => if tyOk m x S1 = true then (fs en S1).bind fun xs S2 => mthV m x xs S2 else .stk) q)
  split at p
  · rename_i ht
    refine ⟨ty_mth w k ht, ?_⟩
    refine TAA.mono (fun vs H2 h => ?_) (⟨en, S1, J1, r1, w, e1, ?_⟩ : TAA F W fs st H1 fun vs H2 => ∃ J2 r2 S2 xs, Wo F H2 J2 r2 S2 ∧ Le H1 J1 r1 H2 J2 r2 ∧ Reps F J2 r2 xs vs ∧ PoE F W st H2 J2 r2 (mthV m x xs S2) Q)
    · obtain ⟨J2, r2, S2, xs, w2, l2, k2, p2⟩ := h
      exact ⟨J2, r2, S2, x, xs, st, W, w2, k.le l2, k2, p2⟩
    · cases h : fs en S1 with
      | stk => rw [h] at p; exact p
      | exc c fs S1 => rw [h] at p; exact p
      | ok xs S2 =>
        rw [h] at p
        exact fun H2 J2 r2 vs w2 l2 k2 => ⟨J2, r2, S2, xs, w2, l2, k2, p.le l2⟩
  · exact p.elim
end
end GW
/-! Core 10: targets, walks over things, comprehensions. -/
namespace GW
open PySem L2
def Tg.ixs : Tg → List Nat
  | .one i => [i]
  | .tup is => is
def gIs : List Nat → TGs
  | [] => gNil
  | i :: is => gCons (gName i) (gIs is)
/-! a list is taken apart, too -/
section
open PyProof PyProof.Rows
variable {prog : Program} {w : World} {A : Around} {E : Value → Shared → Prop} {s : Shared}
theorem draw_list {it t : Addr} {items : Array Value} (hne : t ≠ it) : ∀ (n i : Nat) (s : Shared) (Q : List Value → Shared → Prop), s.heap.IsListIter it t i → s.heap.IsList t items → i + n ≤ items.size →
    (∀ h', h'.IsListIter it t (i + n) → Heap.SameBut it s.heap h' → Q ((items.toList.drop i).take n) { s with heap := h' }) → wpAny (model prog w) A (draw (.ref it) n) Q E s
  | 0, i, s, Q, hit, _, _, hQ => by
    show wpAny _ _ (pure []) Q E s
    exact wpAny_pure (by simpa using hQ s.heap hit (Heap.SameBut.refl ..))
  | n + 1, i, s, Q, hit, ht, hle, hQ => by
    have hlt : i < items.size := by omega
    show wpAny _ _ (pyNext (.ref it) >>= _) Q E s
    refine wpAny_bind (wpAny_pyNext_list_item hit ht (x := items[i]) (by simp [hlt]) fun h₁ hit₁ hs₁ => ?_)
    refine wpAny_bind (wpAny_holding (draw_list hne n (i + 1) _ _ hit₁ (ht.extBut hs₁.extBut hne) (by omega) fun h₂ hit₂ hs₂ => wpAny_pure ?_))
    have hd : items.toList.drop i = items[i] :: items.toList.drop (i + 1) := by simp [List.drop_eq_getElem_cons, hlt]
    have := hQ h₂ (by rw [show i + (n + 1) = i + 1 + n by omega]; exact hit₂) (hs₁.trans hs₂)
    rw [hd, List.take_succ_cons] at this
    exact this
theorem unpackItems_list {t : Addr} {items : Array Value} {Q : List Value → Shared → Prop} (hh : A.handled = none) (ht : s.heap.IsList t items)
    (hQ : ∀ h', Heap.ExtBut s.heap.objs.size s.heap h' → Q items.toList { s with heap := h' }) : wpAny (model prog w) A (unpackItems (.ref t) items.size none) Q E s := by
  have hlt : t ≠ s.heap.objs.size := by obtain ⟨o, ho, _⟩ := ht; exact Nat.ne_of_lt (Heap.lt_size ho)
  unfold unpackItems
  refine wpAny_bind ?_
  · unfold notIterableAtAll
    refine wpAny_bind (wpAny_specialOf ht.typeIs slot_list_iter.lookup ?_)
    refine wpAny_pure ?_
    simp only [Bool.false_eq_true, if_false]
    refine wpAny_bind (wpAny_holding (wpAny_pyIter_list ht ?_))
    refine wpAny_bind (wpAny_holding (draw_list hlt items.size 0 _ _ ⟨_, Heap.get?_push_size _ rfl, rfl, rfl⟩ (ht.push _) (by omega) fun h₁ hit₁ hs₁ => ?_))
    have hall : List.take items.size (List.drop 0 items.toList) = items.toList := by
      rw [List.drop_zero]; exact List.take_of_length_le (by simp)
    rw [hall]
    rw [if_neg (by simp)]
    have ht₁ : h₁.IsList t items := (ht.push _).extBut hs₁.extBut hlt
    refine wpAny_bind (wpAny_holding (wpAny_pyNext_list_end hh hit₁ ht₁ (by simp) fun h₂ he₂ => ?_))
    simp only [Option.isSome_none, Bool.false_eq_true, if_false]
    refine wpAny_pure (hQ h₂ fun b o hb e => he₂ b o hb (hs₁.extBut b o hb (Heap.get?_push_of_some _ e)))
theorem assign_Tuple_list {env : Env} {elts : List Expr} {x1} {pos : Pos} {t : Addr} {items : Array Value} {Q : Unit → Shared → Prop} (hh : A.handled = none) (ht : s.heap.IsList t items)
    (hn : (assignEach elts env).length = items.size) (hstar : (assignEach elts env).findIdx? (·.1) = none)
    (h : ∀ h', Heap.ExtBut s.heap.objs.size s.heap h' → wpAny (model prog w) A (assignInOrder ((assignEach elts env).map (·.2)) items.toList) Q E { s with heap := h' }) :
    wpAny (model prog w) A (assign (.Tuple elts x1 pos) env (.ref t)) Q E s := by
  rw [assign_Tuple]
  refine wpAny_bind (wpAny_standAt ?_)
  unfold unpack
  rw [hn, hstar]
  exact wpAny_bind (wpAny_holding (unpackItems_list hh ht h))
end
def gTupS (K : PySem.W.Frag) (n : Nat) (t : TGs) : TG := fun v σ H Q => ∃ a xs, v = .ref a ∧ (SqT K H a xs ∨ SqL K H a xs) ∧ xs.length = n ∧ t xs σ H Q
section
variable {X : Cx} {pos : Pos}
theorem pg_tupS {es : List Expr} {k : Nat} {t : TGs} {n : Nat} (hc : X.calm = true) (h : PGs X es t)
    (hn : (assignEach es X.env).length = n := by rfl) (hst : (assignEach es X.env).findIdx? (·.1) = none := by rfl) : PG X (.Tuple es k pos) (gTupS X.K n t) := by
  refine ⟨fun pins s σ H v u Q I r hw => ?_⟩
  obtain ⟨a, xs, e1, hq, hl, hw⟩ := hw
  subst e1
  cases r
  rcases hq with hq | hq
  · obtain ⟨its, rv, ht, hz⟩ := I.tuple hq
    refine PyProof.Rows.assign_Tuple_tuple (I.ok.hd hc) ht (by simp [hn, ← hl, rv.length]) hst fun h' hx => ?_
    have I1 : Inv X pins σ H { s with heap := h' } := I.kept (t' := s.toks) fun b o e => hx b o (Nat.ne_of_lt (Heap.lt_size e)) e
    exact h.run pins _ σ H xs _ Q I1 (by simpa using rv) hw
  · obtain ⟨its, rv, ⟨o, n', ho, hc', _, hd⟩, hz⟩ := I.list hq
    refine assign_Tuple_list (I.ok.hd hc) ⟨o, ho, hc', n', hd⟩ (by simp [hn, ← hl, rv.length]) hst fun h' hx => ?_
    have I1 : Inv X pins σ H { s with heap := h' } := I.kept (t' := s.toks) fun b o e => hx b o (Nat.ne_of_lt (Heap.lt_size e)) e
    exact h.run pins _ σ H xs _ Q I1 (by simpa using rv) hw
end
def gTg (K : PySem.W.Frag) : Tg → TG
  | .one i => gName i
  | .tup is => gTupS K is.length (gIs is)
def sets (st : L2.St) : List Nat → List V → L2.St
  | i :: is, v :: vs => sets (st.set i (some v)) is vs
  | _, _ => st
theorem sets_length : ∀ (is : List Nat) (vs : List V) (st : L2.St), (sets st is vs).length = st.length
  | [], _, _ => rfl
  | _ :: _, [], _ => rfl
  | i :: is, v :: vs, st => by show (sets (st.set i (some v)) is vs).length = _; rw [sets_length is vs, List.length_set]
theorem gIs_ok {Q : L2.St → Hp → Prop} {H : Hp} : ∀ (is : List Nat) (vs : List V) (st : L2.St), vs.length = is.length → Q (sets st is vs) H → gIs is vs st H Q
  | [], [], _, _, q => ⟨rfl, q⟩
  | i :: is, v :: vs, st, h, q => ⟨v, vs, rfl, gIs_ok is vs (st.set i (some v)) (by simpa using h) q⟩
def setE (en : Enm) : List Nat → List Val → Enm
  | i :: is, x :: xs => setE (en.set i (some x)) is xs
  | _, _ => en
theorem putT_fold (en : Enm) : ∀ (is : List Nat) (xs : List Val), (is.zip xs).foldl (fun e p => e.set p.1 (some p.2)) en = setE en is xs
  | [], _ => rfl
  | _ :: _, [] => rfl
  | i :: is, x :: xs => putT_fold (en.set i (some x)) is xs
theorem setE_length : ∀ (is : List Nat) (xs : List Val) (en : Enm), (setE en is xs).length = en.length
  | [], _, _ => rfl
  | _ :: _, [], _ => rfl
  | i :: is, v :: vs, st => by show (setE (st.set i (some v)) is vs).length = _; rw [setE_length is vs, List.length_set]
section
variable {F : Fx} {X : Cx} {W : WS} {pins : List (Addr × Obj)} {s : Shared} {st : L2.St} {H J H1 J1 : Hp} {r r1 : List Addr} {S : Store} {en : Enm}
variable {a b c e : Expr} {es : List Expr} {pos : Pos}
def EnX (F : Fx) (J : Hp) (r : List Addr) (ix : List Nat) (en : Enm) (st : L2.St) : Prop := ∀ (i : Nat) x, i ∉ ix → en[i]? = some (some x) → ∃ v, st[i]? = some (some v) ∧ Rep F J r x v
theorem EnX.put {ix : List Nat} {x : Val} {v : V} {i : Nat} (p : EnX F J r ix en st) (k : Rep F J r x v) (h : i < st.length) : EnX F J r (ix.filter (· != i)) (en.set i (some x)) (st.set i (some v)) := fun j y hj e => by
  by_cases hij : i = j
  · subst hij
    by_cases hl : i < en.length
    · rw [List.getElem?_set_self hl] at e
      cases e
      exact ⟨v, List.getElem?_set_self h, k⟩
    · rw [List.set_eq_of_length_le (by omega), List.getElem?_eq_none (by omega)] at e
      cases e
  · rw [List.getElem?_set_ne hij] at e ⊢
    exact p j y (fun z => hj (List.mem_filter.mpr ⟨z, by simpa using fun q => hij q.symm⟩)) e
theorem EnX.puts : ∀ (is : List Nat) (ix : List Nat) {xs : List Val} {vs : List V} {en : Enm} {st : L2.St}, EnX F J r ix en st → Reps F J r xs vs → xs.length = is.length → (∀ i ∈ is, i < st.length) → EnX F J r (ix.filter fun i => !(is.contains i)) (setE en is xs) (sets st is vs)
  | [], ix, xs, vs, en, st, p, k, hl, hi => by
    cases k with
    | nil =>
      have e : (ix.filter fun i => !(([] : List Nat).contains i)) = ix := List.filter_eq_self.mpr (fun _ _ => rfl)
      rw [e]
      exact p
    | cons a b => simp at hl
  | i :: is, ix, xs, vs, en, st, p, k, hl, hi => by
    cases k with
    | nil => simp at hl
    | cons a b =>
      have q := EnX.puts is _ (p.put (i := i) a (hi i (List.mem_cons_self ..))) b (by simpa using hl) (fun j hj => by rw [List.length_set]; exact hi j (List.mem_cons_of_mem _ hj))
      have e : (ix.filter (· != i)).filter (fun j => !(is.contains j)) = ix.filter fun j => !((i :: is).contains j) := by
        rw [List.filter_filter]
        congr 1
        funext j
        rw [List.contains_cons]
        cases h1 : (j == i) <;> cases h2 : is.contains j <;> simp [h1, bne]
      rw [e] at q
      exact q
theorem EnX.nil (p : EnX F J r [] en st) : En F J r en st := fun i x e => p i x (fun z => nomatch z) e
theorem En.toX (p : En F J r en st) (ix : List Nat) : EnX F J r ix en st := fun i x _ e => p i x e
def stT (t : Tg) (x : V) (vs : List V) (st : L2.St) : L2.St := match t with
  | .one i => st.set i (some x)
  | .tup is => sets st is vs
theorem put_ok (hK : F.K = X.K) (t : Tg) (w : Wo F H J r S) {x : Val} {v : V} {en' : Enm} {ix : List Nat} (k : Rep F J r x v) (p : EnX F J r ix en st) (hi : ∀ i ∈ t.ixs, i < st.length) (h : putT t x en = some en') :
    ∃ vs, EnX F J r (ix.filter fun i => !(t.ixs.contains i)) en' (stT t v vs st) ∧ en'.length = en.length ∧ ∀ (st2 : L2.St) (Q : L2.St → Hp → Prop), Q (stT t v vs st2) H → gTg X.K t v st2 H Q := by
  cases t with
  | one i =>
    cases h
    refine ⟨[], ?_, by simp, fun st2 Q q => q⟩
    have q := p.put k (hi i (by simp [Tg.ixs]))
    have e : (fun j => !((Tg.one i).ixs.contains j)) = (· != i) := by
      funext j
      simp [Tg.ixs, bne]
      rfl
    rw [e]
    exact q
  | tup is =>
    unfold putT at h
    dsimp only at h
    split at h
    · rename_i xs
      split at h
      · rename_i hl
        cases h
        cases k with
        | tup q t =>
          rename_i vs _
          rw [putT_fold]
          refine ⟨vs, EnX.puts is ix p t hl hi, setE_length _ _ _, fun st2 Q q2 => ⟨_, vs, rfl, .inl (hK ▸ sqT_H w q), by rw [t.length]; exact hl, gIs_ok is vs st2 (by rw [t.length]; exact hl) q2⟩⟩
      · cases h
    · rename_i xs
      split at h
      · rename_i hl
        cases h
        cases k with
        | lst q t =>
          rename_i vs _
          rw [putT_fold]
          refine ⟨vs, EnX.puts is ix p t hl hi, setE_length _ _ _, fun st2 Q q2 => ⟨_, vs, rfl, .inr (hK ▸ sqL_H w (SqL.of q)), by rw [t.length]; exact hl, gIs_ok is vs st2 (by rw [t.length]; exact hl) q2⟩⟩
      · cases h
    · cases h
theorem stT_length (t : Tg) (x : V) (vs : List V) (st : L2.St) : (stT t x vs st).length = st.length := by
  cases t with
  | one i => exact List.length_set ..
  | tup is => exact sets_length _ _ _
/-! ### what is checked against, what stands -/
structure Ck where
  N : List Str
  sc : Scope
  fn : Str → Bool
  calm : Bool
  top : Bool
  ex : Option (Nat × Nat)
structure Tab where
  bl : List Str
  fn : List Str
  cl : List Str
  ci : List Nat
  cf : List (List Str)
  cs : List (Str × Val)
  df : List (List He.Dv) := []
def CstAt (mg : Str → Option Value) (x : Str) (v : Val) : Prop := match v with
  | .int i => ∃ t, mg x = some (.int i t)
  | .str z => ∃ t, mg x = some (.str z t)
  | _ => True
def Ck.vis (G : Ck) (i : Nat) (x : Str) : Bool := (G.N[i]? == some x) && (match G.sc.names.lookup x with
  | some .local => true
  | some .cell => true
  | some .free => true
  | _ => false) && !(x == ("__debug__" : Str)) && !(x == ("__classdict__" : Str))
def Ck.loc (G : Ck) (i : Nat) (x : Str) : Bool := (G.N[i]? == some x) && decide (G.ex.map (·.1) ≠ some i) && (match G.sc.names.lookup x with
  | some .local => true
  | some .cell => G.fn x
  | _ => false)
def Ck.glo (G : Ck) (x : Str) : Bool := match G.sc.names.lookup x with
  | some .globalImplicit => true
  | _ => false
def Ck.blk (G : Ck) (scope : Scope) : Ck := ⟨G.N, relS scope G.sc, fun x => scope.names.lookup x == some .cell, G.calm, false, none⟩
def W0 : WS := ⟨fun _ _ _ _ => False, [], fun _ => True⟩
def PoF (F : Fx) (E : XK) (H J : Hp) (r : List Addr) (x : Res Val) (Q : VK) : Prop := match x with
  | .ok v S' => ∀ H' J' r' w, Wo F H' J' r' S' → Le H J r H' J' r' → Rep F J' r' v w → Q w H'
  | .exc c fs S' => ∀ H' J' r' d ws, Wo F H' J' r' S' → Le H J r H' J' r' → J' d = some (.xd ((F.cf c).zip ws)) → Reps F J' r' fs ws → E (.ref (F.ca c)) (some d) H'
  | .stk => False
theorem PoE.toF {x : Res Val} {Q : VK} (p : PoE F W st H J r x Q) : PoF F (WE W.w st) H J r x Q := by
  cases x with
  | ok v S => exact p
  | exc c fs S => exact p
  | stk => exact p
def SpF (F : Fx) (np : Nat) (g : List Val → Store → Res Val) : Sp := fun vs H Q E => ∃ J r S xs, Wo F H J r S ∧ Reps F J r xs vs ∧ vs.length = np ∧ PoF F E H J r (g xs S) Q
structure FnG (P : Program) (w : World) (K : PySem.W.Frag) (mg : Str → Option Value) (base : Heap) (k : Nat) (f : Addr) (fd : FuncData) (ps : List Str) (sp : Sp) : Prop where
  run : ∀ (A : Around) (outer : List Env) (s : Shared) (H : Hp) (args : Args) (us : List Value) (vs : List V) (Q : VK) (E : XK), Room k A → A.guards = some [] → Env0 P w K mg base A outer s H → BindsTo s fd args (ps.zip us) → Vals vs us → sp vs H Q E →
    codeAny (model P w) A (.call (.ref f) args) (CR (L2.CX P w) outer P w H s Q E) s
def okDv : He.Dv → Bool
  | .non => true
  | .bl _ => true
  | .int _ => true
  | .str _ => true
  | _ => false
def cDv : He.Dv → Val
  | .bl b => .bl b
  | .int i => .int i
  | .str x => .str x
  | _ => .non
theorem dv_rep {F : Fx} {J : Hp} {r : List Addr} (K : PySem.W.Frag) : ∀ {ds : List He.Dv}, (∀ d ∈ ds, okDv d = true) → Reps F J r (ds.map cDv) (ds.map (He.Dv.v K))
  | [], _ => .nil
  | d :: ds, h => by
    refine .cons ?_ (dv_rep K fun e he => h e (List.mem_cons_of_mem _ he))
    have := h d (List.mem_cons_self ..)
    cases d <;> first | exact .non | exact .bl _ | exact .int _ | exact .str _ | cases this
structure Held1 (F : Fx) (P : Program) (w : World) (K : PySem.W.Frag) (mg : Str → Option Value) (base : Heap) (k : Nat) (call : Nat → List Val → Store → Res Val) (np : Nat → Nat) (df : List He.Dv) (f : Nat) (x : Str) : Prop where
  hm : mg x = some (.ref (F.fa f))
  kp : PySem.W.keepIn K (.ref (F.fa f)) = true
  fn : ∃ fd ps, FnG P w K mg base k (F.fa f) fd ps (SpF F (np f) (call f)) ∧ (∀ m, m ≤ df.length → ∃ dV, Vals ((df.drop (df.length - m)).map (He.Dv.v K)) dV ∧ Binds K fd ps dV) ∧ ps.length = np f
  ok : ∀ d ∈ df, okDv d = true
def SpI (F : Fx) (c : Nat) : Sp := fun vs H Q _ => ∃ a ys, vs = .ref a :: ys ∧ ys.length = (F.cf c).length ∧ H a = some (exo a (F.ca c) none) ∧ ∀ dx, H dx = none → dx ≠ a → Q .non (upd (upd H dx (exd dx ((F.cf c).zip ys.reverse))) a (exo a (F.ca c) (some dx)))
structure XcC (K : PySem.W.Frag) (C : Addr) : Prop where
  ha : PySem.W.findIn K (.ref C) "__class__" = some (some (.builtin "object.__class__"))
  hn : PySem.W.specialIn K (.builtin "object.__class__") "__get__" = some (some (.builtin "getset_descriptor.__get__"))
  ht : PySem.W.takesIn K (.builtin "object.__class__") = some true
  hm : PySem.W.mroIn K C (.type "object") = some true
def xcB (K : PySem.W.Frag) (C : Addr) : Bool := decide (PySem.W.findIn K (.ref C) "__class__" = some (some (.builtin "object.__class__"))) && decide (PySem.W.specialIn K (.builtin "object.__class__") "__get__" = some (some (.builtin "getset_descriptor.__get__"))) && decide (PySem.W.takesIn K (.builtin "object.__class__") = some true) && decide (PySem.W.mroIn K C (.type "object") = some true)
theorem xcB_ok {K : PySem.W.Frag} {C : Addr} (h : xcB K C = true) : XcC K C := by
  unfold xcB at h
  simp only [Bool.and_eq_true, decide_eq_true_eq] at h
  exact ⟨h.1.1.1, h.1.1.2, h.1.2, h.2⟩
def rIsX (K : PySem.W.Frag) (D a dd : Addr) : List V → Hp → VK → Prop := fun xs H Q => ∃ (c : V) (cv : Value) (b : Bool) (fs : List (Str × V)), xs = [.ref a, c] ∧ H dd = some (.xd fs) ∧ (∀ u, RelV c u → u = cv) ∧ PySem.W.kitOne K (.ref D) cv = some b ∧ Q (.bl b) H
def rIsXT (K : PySem.W.Frag) (D a dd : Addr) : List V → Hp → VK → Prop := fun xs H Q => ∃ (tp : Addr) (cs : List V) (us : List Value) (b : Bool) (fs : List (Str × V)), xs = [.ref a, .ref tp] ∧ H dd = some (.xd fs) ∧ H tp = some (.tup cs) ∧ Paired ClsV cs us ∧ PySem.W.kitAny K (.ref D) us = some b ∧ Q (.bl b) H
theorem insX {X : Cx} {a D dd : Addr} {oe : Obj} {pn pins : List (Addr × Obj)} {σ : L2.St} {H : Hp} {s : Shared} {fs : List (Str × V)} (I : Inv (X.suite a ((a, oe) :: pn)) pins σ H s) (hz : Zc (.ref D) (some dd) oe) (hf : ∃ vs, oe.data = .fields vs) (hd : H dd = some (.xd fs)) : ∃ od, PySem.W.InstAt s.heap a oe D (some od) := by
  obtain ⟨hget, _⟩ := I.pin (a, oe) (List.mem_append_left _ List.mem_cons_self)
  obtain ⟨vs, hv⟩ := hf
  obtain ⟨mA, hns, _⟩ := (show ObjOk X.prog X.w H s.heap dd (.xd fs) from I.hok dd _ hd)
  obtain ⟨od, ho, _⟩ := lookIn_ns hns
  exact ⟨od, hget, hz.1, by unfold PySem.W.notCls; rw [hv] <;> rfl, by rw [hz.2]; exact ho⟩
theorem kitX {K : PySem.W.Frag} {D a : Addr} {oe : Obj} {od : Option Obj} (T : XfC K D) (C : XcC K D) : PySem.W.KitX K (.ref a) (.ref D) (fun h => PySem.W.InstAt h a oe D od) := by
  obtain ⟨cd, hc, _⟩ := PySem.W.any_some T.hdC
  exact PySem.W.kitx_exc (by rw [hc]; rfl) T.ga T.gg T.exC C.ha C.hn C.ht C.hm
theorem call_isX {X : Cx} {a D dd : Addr} {oe : Obj} {pn : List (Addr × Obj)} (T : XfC X.K D) (C : XcC X.K D) (hz : Zc (.ref D) (some dd) oe) (hf : ∃ vs, oe.data = .fields vs) : CallR (X.suite a ((a, oe) :: pn)) (.builtin "isinstance") (rIsX X.K D a dd) := by
  intro pins s σ H xs us Q I r h
  obtain ⟨c, cv, b, fs, rfl, hd, hcv, e, q⟩ := h
  obtain ⟨u1, u2, rfl, r1, r2⟩ := vals2 r
  cases (show u1 = Value.ref a from r1)
  have ec := hcv _ r2
  subst ec
  obtain ⟨od, J⟩ := insX I hz hf hd
  exact PySem.W.kia_one (kitX (od := some od) T C) I.kIn J e (fun z => nomatch z) fun tk => ⟨.bl b, H, I.tok tk, rfl, q⟩
theorem call_isXT {X : Cx} {a D dd : Addr} {oe : Obj} {pn : List (Addr × Obj)} (T : XfC X.K D) (C : XcC X.K D) (hz : Zc (.ref D) (some dd) oe) (hf : ∃ vs, oe.data = .fields vs) : CallR (X.suite a ((a, oe) :: pn)) (.builtin "isinstance") (rIsXT X.K D a dd) := by
  intro pins s σ H xs us Q I r h
  obtain ⟨tp, cs, ws, b, fs, rfl, hd, hT, k, e, q⟩ := h
  obtain ⟨u1, u2, rfl, r1, r2⟩ := vals2 r
  cases (show u1 = Value.ref a from r1)
  cases (show u2 = Value.ref tp from r2)
  obtain ⟨od, J⟩ := insX I hz hf hd
  obtain ⟨_, its, rv, o, h1, h2, n, h3⟩ := (show ObjOk X.prog X.w H s.heap tp (.tup cs) from I.hok tp _ hT)
  have e3 := ClsV.all k rv
  subst e3
  obtain ⟨oc, od2, dt, sl⟩ := o
  simp only at h2 h3
  subst h2 h3
  exact PySem.W.kia_tup (kitX (od := some od) T C) I.kIn J h1 e (fun z => nomatch z) fun tk => ⟨.bl b, H, I.tok tk, rfl, q⟩
structure Ini (F : Fx) (P : Program) (w : World) (K : PySem.W.Frag) (mg : Str → Option Value) (base : Heap) (c : Nat) : Prop where
  oex : OexC K (F.ca c)
  xcc : XcC K (F.ca c)
  xfc : XfC K (F.ca c)
  fld : ∀ f ∈ F.cf c, PySem.W.findIn K (.ref (F.ca c)) f = some none
  fn : ∃ fI fd ps, PySem.W.findIn K (.ref (F.ca c)) "__init__" = some (some (.ref fI)) ∧ PySem.W.typeIn K (.ref fI) = some (.type "function") ∧ FnOk P w K mg base (L2.CX P w) 1 fI fd ps (SpI F c) ∧ Binds K fd ps []
structure XOk (F : Fx) (T : Tab) (k : Nat) (O : Om) (np : Nat → Nat) (G : Ck) (X : Cx) (W : WS) : Prop where
  sx : Sx F X
  calm : G.calm = true → X.calm = true
  hN : X.N = G.N
  nd : G.N.Nodup
  sc : X.env.scope = G.sc
  fn : X.fn = G.fn
  tk : Takes X W.w
  rm : G.calm = true → Room k X.A
  sd : G.calm = true → W.sd = []
  po : G.top = true → PassesOwn (model X.prog X.w) X.A X.env X.xe
  hs : G.top = true → X.stack = X.env :: X.outer ∧ X.env.frame = some X.env.locals
  ft : G.top = true → ∀ x, G.fn x = true
  iv : ∀ st i (v : Option V), G.ex.map (·.1) ≠ some i → W.iv st → W.iv (st.set i v)
  ivc : G.calm = true → ∀ st, W.iv st
  fns : ∀ f x, T.fn[f]? = some x → Held1 F X.prog X.w X.K X.mg X.base k O.call np (T.df.getD f []) f x
  cls : ∀ c x, T.cl[c]? = some x → X.mg x = some (.ref (F.ca c))
  ini : ∀ c ∈ T.ci, Ini F X.prog X.w X.K X.mg X.base c
  sub : ∀ c d, c < T.cl.length → d < T.cl.length → PySem.W.exmOne X.K (.ref (F.ca c)) (.ref (F.ca d)) = some (O.sub c d)
  srf : ∀ c, c < T.cl.length → O.sub c c = true
  cil : ∀ c ∈ T.ci, c < T.cl.length
  xis : ∀ i c, G.ex = some (i, c) → c < T.cl.length ∧ ∃ a dd, W.sd = [.ref dd] ∧ (∀ st, W.iv st → st[i]? = some (some (.ref a))) ∧ CallR X (.builtin "isinstance") (rIsX X.K (F.ca c) a dd) ∧ CallR X (.builtin "isinstance") (rIsXT X.K (F.ca c) a dd)
  nc : O.nc = T.cl.length
  cf : ∀ c, F.cf c = T.cf.getD c []
  xat : ∀ i c, G.ex = some (i, c) → ∃ dd, W.sd = [.ref dd] ∧ ∀ x f pos pos2, X.N[i]? = some x → Vis X.env.scope x → (x == ("__debug__" : Str)) = false → (x == ("__classdict__" : Str)) = false → f ∈ F.cf c → PE X (.Attribute (.Name x pos2) f pos) (fun st H Q => W.iv st ∧ ∃ fs v, H dd = some (.xd fs) ∧ fs.lookup f = some v ∧ Q v H)
  k2 : 2 ≤ k
  bl : ∀ x ∈ T.bl, X.mg x = none
  cst : ∀ x v, T.cs.lookup x = some v → CstAt X.mg x v
  ln : ∀ f xs S, xs.length ≠ np f → O.call f xs S = .stk
variable {T : Tab} {k : Nat} {O : Om} {np : Nat → Nat} {G : Ck}
theorem XOk.blk (o : XOk F T k O np G X W) (s : Shared) (H : Hp) (scope : Scope) (C : Addr) (cl : List (Str × Addr)) (fp : List Addr) :
    XOk F T k O np (G.blk scope) (X.blk s H scope (compEnvC scope cl C X.env) fp) W0 where
  sx := ⟨o.sx.hK, o.sx.un, o.sx.gd, o.sx.sm⟩
  calm := o.calm
  hN := o.hN
  nd := o.nd
  sc := by show relabel scope X.env = relS scope G.sc; rw [← o.sc]; rfl
  fn := rfl
  tk := fun u s' ⟨_, _, _, _, _, _, _, _, _, _, _, _, _, _, _, _, z⟩ => z.elim
  rm := o.rm
  sd := fun _ => rfl
  po := fun z => nomatch z
  hs := fun z => nomatch z
  ft := fun z => nomatch z
  iv := fun _ _ _ _ _ => trivial
  ivc := fun _ _ => trivial
  fns := o.fns
  cls := o.cls
  ini := o.ini
  sub := o.sub
  nc := o.nc
  srf := o.srf
  cil := o.cil
  xis := fun _ _ z => nomatch z
  cf := o.cf
  xat := fun _ _ z => nomatch z
  k2 := o.k2
  bl := o.bl
  cst := o.cst
  ln := o.ln
theorem XOk.vis (o : XOk F T k O np G X W) {i : Nat} {x : Str} (h : G.vis i x = true) : X.N[i]? = some x ∧ Vis X.env.scope x ∧ (x == ("__debug__" : Str)) = false ∧ (x == ("__classdict__" : Str)) = false := by
  unfold Ck.vis at h
  simp only [Bool.and_eq_true, Bool.not_eq_true'] at h
  obtain ⟨⟨⟨h1, h2⟩, h3⟩, h4⟩ := h
  refine ⟨by rw [o.hN]; simpa using h1, ?_, h3, h4⟩
  unfold Vis
  rw [o.sc]
  split at h2 <;> first | exact .inl ‹_› | exact .inr (.inl ‹_›) | exact .inr (.inr ‹_›) | cases h2
theorem XOk.loc' (o : XOk F T k O np G X W) {i : Nat} {x : Str} (h : G.loc i x = true) : (X.N[i]? = some x ∧ L2.Loc X.env.scope x ∧ (X.fn x = true ∨ X.env.scope.names.lookup x = some .local)) ∧ G.ex.map (·.1) ≠ some i := by
  unfold Ck.loc at h
  simp only [Bool.and_eq_true] at h
  obtain ⟨⟨h1, hex⟩, h2⟩ := h
  refine ⟨⟨by rw [o.hN]; simpa using h1, ?_⟩, of_decide_eq_true hex⟩
  unfold L2.Loc
  rw [o.sc, o.fn]
  split at h2
  · exact ⟨.inl ‹_›, .inr ‹_›⟩
  · exact ⟨.inr ‹_›, .inl h2⟩
  · cases h2
theorem XOk.loc (o : XOk F T k O np G X W) {i : Nat} {x : Str} (h : G.loc i x = true) : X.N[i]? = some x ∧ L2.Loc X.env.scope x ∧ (X.fn x = true ∨ X.env.scope.names.lookup x = some .local) := (o.loc' h).1
theorem XOk.glo (o : XOk F T k O np G X W) {x : Str} (h : G.glo x = true) : Gl X x := by
  unfold Ck.glo at h
  show X.env.scope.names.lookup x = _
  rw [o.sc]
  split at h
  · assumption
  · cases h
theorem XOk.nd' (o : XOk F T k O np G X W) : X.N.Nodup := by rw [o.hN]; exact o.nd
/-! ### targets -/
def okGs (G : Ck) : List Nat → List Expr → Bool
  | [], [] => true
  | i :: is, .Name x _ :: es => G.loc i x && okGs G is es
  | _, _ => false
def okTg (G : Ck) (t : Tg) (e : Expr) : Bool := match t, e with
  | .one i, .Name x _ => G.loc i x
  | .tup is, .Tuple es _ _ => okGs G is es
  | _, _ => false
theorem okGs_ok (o : XOk F T k O np G X W) : ∀ {is : List Nat} {es : List Expr}, okGs G is es = true → PGs X es (gIs is) ∧ (assignEach es X.env).length = is.length ∧ (assignEach es X.env).findIdx? (·.1) = none ∧ ∀ i ∈ is, i < G.N.length
  | [], [], _ => ⟨pgs_nil, rfl, rfl, fun _ z => nomatch z⟩
  | i :: is, .Name x p :: es, h => by
    obtain ⟨h1, h2⟩ := Bool.and_eq_true_iff.mp h
    obtain ⟨q1, q2, q3⟩ := o.loc h1
    obtain ⟨p1, p2, p3, p4⟩ := okGs_ok o h2
    refine ⟨pgs_cons (pg_name o.nd' q1 q2 q3) p1, ?_, ?_, fun j hj => ?_⟩
    · show (assignEach es X.env).length + 1 = _; rw [p2]; rfl
    · show ((false, _) :: assignEach es X.env).findIdx? (·.1) = none
      rw [List.findIdx?_cons]
      simp [p3]
    · rcases List.mem_cons.mp hj with rfl | hj
      · rw [o.hN] at q1; exact (List.getElem?_eq_some_iff.mp q1).1
      · exact p4 j hj
  | [], _ :: _, h => by cases h
  | _ :: _, [], h => by cases h
  | i :: is, e :: es, h => by
    cases e <;> first | (cases h; done) | skip
    rename_i x p
    obtain ⟨h1, h2⟩ := Bool.and_eq_true_iff.mp h
    obtain ⟨q1, q2, q3⟩ := o.loc h1
    obtain ⟨p1, p2, p3, p4⟩ := okGs_ok o h2
    refine ⟨pgs_cons (pg_name o.nd' q1 q2 q3) p1, ?_, ?_, fun j hj => ?_⟩
    · show (assignEach es X.env).length + 1 = _; rw [p2]; rfl
    · show ((false, _) :: assignEach es X.env).findIdx? (·.1) = none
      rw [List.findIdx?_cons]
      simp [p3]
    · rcases List.mem_cons.mp hj with rfl | hj
      · rw [o.hN] at q1; exact (List.getElem?_eq_some_iff.mp q1).1
      · exact p4 j hj
theorem okTg_ok (o : XOk F T k O np G X W) (hcm : G.calm = true) {t : Tg} {e : Expr} (h : okTg G t e = true) : PG X e (gTg X.K t) ∧ ∀ i ∈ t.ixs, i < G.N.length := by
  unfold okTg at h
  split at h
  · obtain ⟨q1, q2, q3⟩ := o.loc h
    refine ⟨pg_name o.nd' q1 q2 q3, fun j hj => ?_⟩
    cases List.mem_singleton.mp hj
    rw [o.hN] at q1; exact (List.getElem?_eq_some_iff.mp q1).1
  · obtain ⟨p1, p2, p3, p4⟩ := okGs_ok o h
    exact ⟨pg_tupS (o.calm hcm) p1 p2 p3, p4⟩
  · cases h
end
end GW
/-! ### enumerate over a tuple -/
namespace RE
open PySem PySem.Spec PyProof.Rows L2
theorem meets_enumerate_newT (l : Addr) (items : Array Value) :
    Meets (Builtin.«enumerate.__new__» ⟨[.type "enumerate", .ref l], []⟩) (fun _ R s => s.heap.IsTuple l items ∧
      R (.ok (.ret (.ref (s.heap.push { cls := .type "tuple_iterator", data := .fields #[.ref l, .int 0 0] }).objs.size)))
        { s with heap := (s.heap.push { cls := .type "tuple_iterator", data := .fields #[.ref l, .int 0 0] }).push { cls := .type "enumerate", data := .fields #[.none, .bool false, .ref s.heap.objs.size, rawInt 0, .none, .none] } }) :=
  .of_wp fun prog w A R s h => by
    obtain ⟨hp, g, d, tk, os⟩ := s; obtain ⟨hl, h⟩ := h
    have hsub := sub_enumerate
    have hL : Heap.IsTuple (Shared.heap ⟨hp, g, d, tk, os⟩) l items := hl
    obtain ⟨⟨c, dct, dt, sl⟩, hl', hc, n, hd⟩ := hl
    replace hc : c = .type "tuple" := hc
    replace hd : dt = .seq items n := hd
    subst hc hd
    wp_walk using AutoSeq1.wpAny_loadPart' hl'
    refine wpAny_stack_any fun st => wpAny_pure ?_
    split
    · rename_i c _ _ _ _ _
      cases (c == Value.type "enumerate")
      · wp_walk using AutoSeq1.wpAny_loadPart' hl', wpAny_pyIter_tuple hL
        exact ⟨_, rfl, h⟩
      · wp_walk using AutoSeq1.wpAny_loadPart' hl', wpAny_pyIter_tuple hL
        exact ⟨_, rfl, h⟩
    · wp_walk using AutoSeq1.wpAny_loadPart' hl', wpAny_pyIter_tuple hL
      exact ⟨_, rfl, h⟩
section
variable {prog : Program} {w : World} {A : Around} {E : Value → Shared → Prop} {s : Shared}
theorem call_enumerate_tuple {l : Addr} {items : Array Value} {Q : Value → Shared → Prop} (hL : s.heap.IsTuple l items)
    (h : ∀ h', IsEnum h' (s.heap.objs.size + 1) s.heap.objs.size 0 .none → h'.IsTupleIter s.heap.objs.size l 0 → h'.objs.size = s.heap.objs.size + 2 →
      (∀ b o, s.heap.get? b = some o → h'.get? b = some o) → Q (.ref (s.heap.objs.size + 1)) { s with heap := h' }) :
    wpAny (model prog w) A (call (.type "enumerate") [.ref l]) Q E s := by
  refine callType_new F.called_enumerate (by decide) (F.typeCall_enumerate_1 _) (F.newCall_enumerate_1 _) (fun obj => F.args_object_init_2 obj _) F.entry_enumerate_new
    (meets_enumerate_newT l items) ⟨hL, ?_⟩
  have hz : (s.heap.push { cls := .type "tuple_iterator", data := .fields #[.ref l, .int 0 0] }).objs.size = s.heap.objs.size + 1 := Heap.size_push ..
  show _ ∧ _
  rw [hz]
  have he : IsEnum ((s.heap.push { cls := .type "tuple_iterator", data := .fields #[.ref l, .int 0 0] }).push
      { cls := .type "enumerate", data := .fields #[.none, .bool false, .ref s.heap.objs.size, rawInt 0, .none, .none] }) (s.heap.objs.size + 1) s.heap.objs.size 0 .none := by
    have := Heap.get?_push_size (s.heap.push { cls := .type "tuple_iterator", data := .fields #[.ref l, .int 0 0] })
      (o := { cls := .type "enumerate", data := .fields #[.none, .bool false, .ref s.heap.objs.size, rawInt 0, .none, .none] }) rfl
    rw [hz] at this; exact this
  refine ⟨⟨_, he, rfl⟩, h _ he ⟨_, Heap.get?_push_of_some _ (Heap.get?_push_size _ rfl), rfl, rfl⟩ (by rw [Heap.size_push, hz]) fun b o x => Heap.get?_push_of_some _ (Heap.get?_push_of_some _ x)⟩
theorem pyNext_enumT_end {e it t : Addr} {i : Nat} {items : Array Value} {old : Value} {Q : Option Value → Shared → Prop} (hh : A.handled = none)
    (he : IsEnum s.heap e it i old) (hit : s.heap.IsTupleIter it t i) (ht : s.heap.IsTuple t items) (hx : items[i]? = none)
    (hQ : ∀ h', Heap.ExtBut it s.heap h' → Q none { s with heap := h' }) : wpAny (model prog w) A (pyNext (.ref e)) Q E s := by
  have hT : s.TypeIs (.ref e) "enumerate" := ⟨_, he, rfl⟩
  unfold pyNext
  refine wpAny_bind (wpAny_attempt (wpAny_callSpecial?_slot (name := Str.ofString "__next__") hT F.slot_enumerate_next
    (wpAny_call_entry F.slot_enumerate_next hT F.entry_enumerate_next ?_ (F.args_enumerate_next_1 _))))
  show wpAny _ _ (field (.ref e) 2 >>= _) _ _ _
  refine wpAny_bind (wpAny_field he rfl (x := .ref it) rfl ?_)
  refine wpAny_bind (wpAny_nextOf_tuple_end hh hit ht hx fun h' x he' hx' => ?_)
  obtain ⟨o, ho, hc⟩ := hx'
  refine wpAny_bind (wpAny_isInstance (T := "StopIteration") (b := true) ⟨o, ho, hc⟩ isSubtype_stop ?_)
  exact wpAny_pure (hQ _ he')
end
def IteT (K : PySem.W.Frag) (a : Addr) : It :=
  ⟨fun i H => ∃ (xs : List V) (x : V), SqT K H a xs ∧ xs[i]? = some x, fun i H v H' => ∃ T x, v = .ref T ∧ H T = none ∧ H' = upd H T (.tup [.int (i : Nat), x]) ∧ ∀ xs, SqT K H a xs → xs[i]? = some x, fun i H => ∃ xs : List V, SqT K H a xs ∧ xs.length ≤ i⟩
theorem turn_enumT {P : Program} {w : World} {K : PySem.W.Frag} {elts : List Expr} {kk : Nat} {tpos : Pos} (a e it : Addr) (hea : e ≠ a) (hia : a ≠ it) :
    Turn P w K (.Tuple elts kk tpos) (IteT K a) [e, it] e (fun i h => (∃ old, IsEnum h e it ((i : Nat) : Int) old) ∧ h.IsTupleIter it a i ∧ e ≠ it) where
  mem := by simp
  obj := fun i h st b hb => by
    obtain ⟨⟨old, he⟩, ⟨o, ho, hc, hd⟩, _⟩ := st
    have e' : b = e ∨ b = it := by simpa using hb
    rcases e' with z | z
    · rw [z]; exact ⟨_, he, fun v q => nomatch q⟩
    · rw [z]; exact ⟨o, ho, fun v q => by rw [hd] at q; cases q⟩
  keep := fun i h h' st k => let ⟨⟨old, he⟩, hi, hne⟩ := st; ⟨⟨old, k e (by simp) _ he⟩, hi.at fun o q => k it (by simp) o q, hne⟩
  item := by
    intro X hP hw hK hc i pins s σ H E I hf st hg
    subst hP hw hK
    obtain ⟨⟨old, he⟩, hit, hne⟩ := st
    obtain ⟨xs, x, hq, hx⟩ := hg
    obtain ⟨its, rv, p, hz⟩ := I.tuple hq
    obtain ⟨u, hu, ru⟩ := rv.get hx
    have hel : e < s.heap.objs.size := Heap.lt_size he
    have hil : it < s.heap.objs.size := by obtain ⟨_, q, _⟩ := hit; exact Heap.lt_size q
    have hlt : i < its.toArray.size := by
      rw [List.size_toArray]
      exact (List.getElem?_eq_some_iff.mp hu).1
    refine wpAny_pyNext_enum_itemD (Draws.tuple (A := X.A.in1) (show X.A.in1.handled = none from I.ok.hd hc) it a hia its.toArray) he ⟨hit, p⟩ hlt hne (by simp [hne, hea]) fun y h' tk hP ho hs' hT hsz hk => ?_
    have hy : u = y := by
      have : its.toArray[i]? = some u := by simpa using hu
      rw [this] at hP
      exact Option.some.inj hP
    subst hy
    refine ⟨_, rfl, wpAny_letOwnedTupleGo_enum (s := { s with heap := h', toks := tk + 1 }) ho fun h'' he' sb => ?_⟩
    have hT2 : h''.get? s.heap.objs.size = some { cls := .type "tuple", data := .seq #[.int i tk, u] } := (sb.2 _ (Nat.ne_of_gt hel)).trans hT
    have new : ObjOk X.prog X.w (upd H s.heap.objs.size (.tup [.int (i : Nat), x])) h'' s.heap.objs.size (.tup [.int (i : Nat), x]) :=
      ⟨by show 2 ≤ sizeLine; decide, [.int i tk, u], .cons ⟨_, rfl⟩ (.cons ru .nil), ⟨_, hT2, rfl, _, rfl⟩⟩
    have I1 : Inv X pins σ (upd H s.heap.objs.size (.tup [.int (i : Nat), x])) { s with heap := h'', toks := tk + 1 } :=
      I.turnedNew (ch := [e, it]) (fun b ob hb q => (sb.2 b (fun z => hb (by simp [z]))).trans (hk b ob (fun z => hb (by simp [z])) (fun z => hb (by simp [z])) q)) hf (Nat.le_refl _) new
    refine ⟨.ref s.heap.objs.size, _, I1, rfl, ⟨_, x, rfl, I.hok.fresh (Nat.le_refl _), rfl, fun ys hy => by rw [I.tuple_inj hy hq]; exact hx⟩, ⟨⟨u, ?_⟩, hs'.1.at fun o q => (sb.2 it (Ne.symm hne)).trans q, hne⟩, fun b hb => ?_⟩
    · have e1 : ((i + 1 : Nat) : Int) = (i : Int) + 1 := by omega
      rw [e1]; exact he'
    · have hb' : b < s.heap.objs.size := by
        have e' : b = e ∨ b = it := by simpa using hb
        rcases e' with z | z
        · rw [z]; exact hel
        · rw [z]; exact hil
      rw [upd_ne (Nat.ne_of_lt hb')]
      exact (hf b hb).1
  done := by
    intro X hP hw hK hc i pins s σ H E I hf st hg
    subst hP hw hK
    obtain ⟨⟨old, he⟩, hit, hne⟩ := st
    obtain ⟨xs, hq, hx⟩ := hg
    obtain ⟨its, rv, p, hz⟩ := I.tuple hq
    obtain ⟨f0, f1, f2, f3, f4, f5⟩ := hf it (by simp)
    have hl := rv.length
    exact pyNext_enumT_end (I.ok.hd hc) he hit p (by simp; omega) fun h' eb => ⟨rfl, I.turned (t' := s.toks) (fun b o hb q => eb b o hb q) f0 f1 f3 f4 f5⟩
  self := fun A i s Q E st h => let ⟨⟨_, he⟩, _⟩ := st; wpAny_pyIter_enum he h
def iEnumA (K : PySem.W.Frag) (ta : TA) : TI := fun σ H R => ta σ H fun vs H1 => ∃ (a : Addr) (xs : List V), vs = [.ref a] ∧ ((SqL K H1 a xs ∧ R (Ite K a) H1) ∨ (SqT K H1 a xs ∧ R (IteT K a) H1))
theorem pi_enumA {X : Cx} {e : Expr} {ta : TA} {p pos tpos : Pos} {elts : List Expr} {kk : Nat} (hg : Gl X "enumerate") (hm : X.mg "enumerate" = none) (ha : PA X [e] ta) (hs : starEach [e] X.env = [(false, eval e X.env)] := by rfl) :
    PI X (.Tuple elts kk tpos) (.Call (.Name "enumerate" p) [e] [] pos) (iEnumA X.K ta) := by
  refine ⟨fun pins s σ H R I h => ?_⟩
  refine Call_ (ld_blt I hg hm boot_enumerate (PyProof.Rows.callWith_type1 (thn (ha.run pos pins s σ H _ I h) fun us s1 ⟨vs, H1, I1, r1, q1⟩ => ?_) hs rfl))
  obtain ⟨a, xs, ex, q⟩ := q1
  subst ex
  have fp : ∀ b ∈ [s1.heap.objs.size + 1, s1.heap.objs.size], s1.heap.objs.size ≤ b := fun b hb => by
    have e' : b = s1.heap.objs.size + 1 ∨ b = s1.heap.objs.size := by simpa using hb
    rcases e' with z | z
    · rw [z]; exact Nat.le_add_right _ _
    · rw [z]; exact Nat.le_refl _
  cases r1 with
  | cons r rr =>
    cases rr
    cases r
    rcases q with ⟨hq, q⟩ | ⟨hq, q⟩
    · obtain ⟨its, rv, p', hz⟩ := I1.list hq
      refine call_enumerate_list p'.isList fun h' he hit hsz hk => wpAny_pyIter_enum he ?_
      have I2 : Inv X pins σ H1 { s1 with heap := h' } := I1.kept (t' := s1.toks) hk
      exact ⟨s1.heap.objs.size + 1, [s1.heap.objs.size + 1, s1.heap.objs.size], _, _, H1, rfl, I2, turn_enum a (s1.heap.objs.size + 1) s1.heap.objs.size, ⟨⟨.none, he⟩, hit, Nat.succ_ne_self _⟩, fun b hb => I1.fpOk (fp b hb) (I1.hok.fresh (fp b hb)), q⟩
    · obtain ⟨its, rv, p', hz⟩ := I1.tuple hq
      have hal := p'.lt
      refine call_enumerate_tuple p' fun h' he hit hsz hk => wpAny_pyIter_enum he ?_
      have I2 : Inv X pins σ H1 { s1 with heap := h' } := I1.kept (t' := s1.toks) hk
      exact ⟨s1.heap.objs.size + 1, [s1.heap.objs.size + 1, s1.heap.objs.size], _, _, H1, rfl, I2, turn_enumT a (s1.heap.objs.size + 1) s1.heap.objs.size (Nat.ne_of_gt (Nat.lt_succ_of_lt hal)) (Nat.ne_of_lt hal), ⟨⟨.none, he⟩, hit, Nat.succ_ne_self _⟩, fun b hb => I1.fpOk (fp b hb) (I1.hok.fresh (fp b hb)), q⟩
end RE
/-! ### zip over a list and a tuple, whichever way about -/
namespace RM
open PySem PySem.Spec PyProof.Rows L2
def ItA (t : Bool) (h : Heap) (i l : Addr) (k : Nat) : Prop := match t with
  | true => h.IsTupleIter i l k
  | false => h.IsListIter i l k
def SqA (t : Bool) (h : Heap) (l : Addr) (xs : Array Value) : Prop := match t with
  | true => h.IsTuple l xs
  | false => h.IsList l xs
theorem ItA.ex {t : Bool} {h h' : Heap} {a b l : Addr} {i : Nat} (x : ItA t h a l i) (hs : Heap.ExtBut b h h') (ab : a ≠ b) : ItA t h' a l i := by
  cases t
  · exact Heap.IsListIter.extBut x hs ab
  · exact Heap.IsTupleIter.extBut x hs ab
theorem SqA.ex {t : Bool} {h h' : Heap} {a b : Addr} {xs : Array Value} (x : SqA t h a xs) (hs : Heap.ExtBut b h h') (ab : a ≠ b) : SqA t h' a xs := by
  cases t
  · exact Heap.IsList.extBut x hs ab
  · exact Heap.IsTuple.extBut x hs ab
theorem ItA.to {t : Bool} {h h' : Heap} {a l : Addr} {i : Nat} (x : ItA t h a l i) (e : ∀ o, h.get? a = some o → h'.get? a = some o) : ItA t h' a l i := by
  cases t
  · exact Heap.IsListIter.at x e
  · exact Heap.IsTupleIter.at x e
theorem ItA.lt {t : Bool} {h : Heap} {a l : Addr} {i : Nat} (x : ItA t h a l i) : a < h.objs.size := by
  cases t
  · obtain ⟨_, e, _⟩ := x; exact Heap.lt_size e
  · obtain ⟨_, e, _⟩ := x; exact Heap.lt_size e
theorem ItA.obj {t : Bool} {h : Heap} {a l : Addr} {i : Nat} (x : ItA t h a l i) : ∃ o, h.get? a = some o ∧ ∀ v, o.data ≠ .cell v := by
  cases t
  · obtain ⟨o, e, _, d⟩ := x; exact ⟨o, e, fun v q => by rw [d] at q; cases q⟩
  · obtain ⟨o, e, _, d⟩ := x; exact ⟨o, e, fun v q => by rw [d] at q; cases q⟩
section
variable {prog : Program} {w : World} {A : Around} {E : Value → Shared → Prop} {s : Shared}
theorem nxt {t : Bool} {it l : Addr} {i : Nat} {xs : Array Value} {x : Value} {Q : Value → Shared → Prop} (hit : ItA t s.heap it l i) (hl : SqA t s.heap l xs) (hx : xs[i]? = some x)
    (hQ : ∀ h', ItA t h' it l (i + 1) → Heap.SameBut it s.heap h' → Q x { s with heap := h' }) : wpAny (model prog w) A (Builtin.SmallTypes.nextOf (.ref it)) Q E s := by
  cases t
  · exact wpAny_nextOf_list_item hit hl hx hQ
  · exact RZ.nextOf_tuple_item hit hl hx hQ
theorem fin {t : Bool} {it l : Addr} {i : Nat} {xs : Array Value} {Q : Value → Shared → Prop} (hh : A.handled = none) (hit : ItA t s.heap it l i) (hl : SqA t s.heap l xs) (hx : xs[i]? = none)
    (hE : ∀ h' e, Heap.ExtBut it s.heap h' → (∃ o, h'.get? e = some o ∧ o.cls = .type "StopIteration") → E (.ref e) { s with heap := h' }) : wpAny (model prog w) A (Builtin.SmallTypes.nextOf (.ref it)) Q E s := by
  cases t
  · exact wpAny_nextOf_list_end hh hit hl hx hE
  · exact RZ.nextOf_tuple_end hh hit hl hx hE
theorem zipM_item {t u : Bool} {q p1 p2 j1 j2 m1 m2 : Addr} {n1 n2 : Nat} {xs ys : Array Value} {x y a b : Value} {Q : Value → Shared → Prop} (D : ZipApart q p1 p2 j1 j2 m1 m2)
    (hq : IsZip s.heap q p1 p2 .none) (hp : IsPair s.heap p1 (.ref j1) (.ref j2)) (ho : IsPair s.heap p2 a b)
    (i1 : ItA t s.heap j1 m1 n1) (i2 : ItA u s.heap j2 m2 n2) (c1 : SqA t s.heap m1 xs) (c2 : SqA u s.heap m2 ys) (hx : xs[n1]? = some x) (hy : ys[n2]? = some y)
    (hQ : ∀ h', IsZip h' q p1 p2 (rawInt s.heap.objs.size) → IsPair h' p2 x y → ItA t h' j1 m1 (n1 + 1) → ItA u h' j2 m2 (n2 + 1) → IsPair h' s.heap.objs.size x y → h'.objs.size = s.heap.objs.size + 1 →
      (∀ c o, c ≠ q → c ≠ p2 → c ≠ j1 → c ≠ j2 → s.heap.get? c = some o → h'.get? c = some o) → Q (.ref s.heap.objs.size) { s with heap := h' }) :
    wpAny (model prog w) A (Builtin.«zip.__next__» ⟨[.ref q], []⟩) (fun fin s' => ∃ v, fin = .done (.ret v) ∧ Q v s') E s := by
  show wpAny _ _ (field (.ref q) 2 >>= _) _ _ _
  refine wpAny_bind (wpAny_field hq rfl (x := .bool false) rfl ?_)
  show wpAny _ _ (field (.ref q) 3 >>= _) _ _ _
  refine wpAny_bind (wpAny_field hq rfl (x := .ref p1) rfl ?_)
  refine wpAny_bind (wpAny_seqItems hp rfl ?_)
  show wpAny _ _ (Builtin.SmallTypes.ownedTupleIsFree (.ref q) >>= _) _ _ _
  refine wpAny_bind ?_; unfold Builtin.SmallTypes.ownedTupleIsFree
  refine wpAny_bind (wpAny_field hq rfl (x := .none) rfl (wpAny_pure ?_)); simp only [if_true]
  refine wpAny_bind (wpAny_rule ?_)
  refine wpAny_bind (wpAny_field hq rfl (x := .ref p2) rfl ?_)
  refine wpAny_bind (wpAny_setField_rec hq (by simp) fun g1 gq1 k1 => ?_)
  replace gq1 : IsZip g1 q p1 p2 .ellipsis := gq1
  refine wpAny_bind ?_; simp only [List.zipIdx_cons, List.zipIdx_nil, List.forIn_cons, List.forIn_nil]
  refine wpAny_bind (wpAny_bind (wpAny_onRaise ?_)); show wpAny _ _ (Builtin.SmallTypes.nextOf (.ref j1) >>= _) _ _ _
  refine wpAny_bind (nxt (i1.ex k1.extBut D.i1z) (c1.ex k1.extBut D.l1z) hx fun g2 r1 k2 => wpAny_pure ?_)
  have o2 : IsPair g2 p2 a b := k2.extBut _ _ D.TOi1 (k1.extBut _ _ D.TOz ho)
  refine wpAny_bind (wpAny_seqItems o2 rfl ?_)
  refine wpAny_bind (wpAny_updateSeq_pair o2 fun g3 o3 k3 => ?_)
  replace o3 : IsPair g3 p2 x b := o3
  refine wpAny_bind (wpAny_letGo (wpAny_pure ?_))
  refine wpAny_bind (wpAny_bind (wpAny_onRaise ?_)); show wpAny _ _ (Builtin.SmallTypes.nextOf (.ref j2) >>= _) _ _ _
  refine wpAny_bind (nxt (((i2.ex k1.extBut D.i2z).ex k2.extBut D.i12.symm).ex k3.extBut D.TOi2.symm) (((c2.ex k1.extBut D.l2z).ex k2.extBut D.l2i1).ex k3.extBut D.l2TO) hy fun g4 r2 k4 => wpAny_pure ?_)
  have o4 : IsPair g4 p2 x b := k4.extBut _ _ D.TOi2 o3
  refine wpAny_bind (wpAny_seqItems o4 rfl ?_)
  refine wpAny_bind (wpAny_updateSeq_pair o4 fun g5 o5 k5 => ?_)
  replace o5 : IsPair g5 p2 x y := o5
  refine wpAny_bind (wpAny_letGo (wpAny_pure (wpAny_pure ?_)))
  refine wpAny_bind (wpAny_seqItems o5 rfl ?_)
  refine wpAny_bind (wpAny_newTuple ?_)
  have hsz : g5.objs.size = s.heap.objs.size := by rw [k5.1, k4.1, k3.1, k2.1, k1.1]
  have gq5 : IsZip g5 q p1 p2 .ellipsis := k5.extBut _ _ D.TOz.symm (k4.extBut _ _ D.i2z.symm (k3.extBut _ _ D.TOz.symm (k2.extBut _ _ D.i1z.symm gq1)))
  have kk : ∀ c o, c ≠ q → c ≠ p2 → c ≠ j1 → c ≠ j2 → s.heap.get? c = some o → g5.get? c = some o := fun c o d1 d2 d3 d4 e =>
    k5.extBut _ _ d2 (k4.extBut _ _ d4 (k3.extBut _ _ d2 (k2.extBut _ _ d3 (k1.extBut _ _ d1 e))))
  have e1 : ItA t g5 j1 m1 (n1 + 1) := ((r1.ex k3.extBut D.TOi1.symm).ex k4.extBut D.i12).ex k5.extBut D.TOi1.symm
  have e2 : ItA u g5 j2 m2 (n2 + 1) := r2.ex k5.extBut D.TOi2.symm
  have lq : q < g5.objs.size := Heap.lt_size gq5
  show wpAny _ _ (Builtin.SmallTypes.ownedTupleHandOut (.ref q) (.ref g5.objs.size) >>= _) _ _ _
  refine wpAny_bind ?_; unfold Builtin.SmallTypes.ownedTupleHandOut
  have gq6 : IsZip (g5.push { cls := .type "tuple", data := .seq #[x, y] }) q p1 p2 .ellipsis := Heap.get?_push_of_some _ gq5
  refine wpAny_bind (wpAny_setField_rec gq6 (by simp) fun g7 gq7 k7 => ?_)
  replace gq7 : IsZip g7 q p1 p2 (rawInt g5.objs.size) := gq7
  refine wpAny_setField_rec gq7 (by simp) fun g8 gq8 k8 => ?_
  replace gq8 : IsZip g8 q p1 p2 (rawInt g5.objs.size) := gq8
  have up : ∀ c o, c ≠ q → g5.get? c = some o → g8.get? c = some o := fun c o d1 e => k8.extBut _ _ d1 (k7.extBut _ _ d1 (Heap.get?_push_of_some _ e))
  have t8 : IsPair g8 g5.objs.size x y := k8.extBut _ _ (Nat.ne_of_gt lq) (k7.extBut _ _ (Nat.ne_of_gt lq) (Heap.get?_push_size _ rfl))
  have z8 : g8.objs.size = g5.objs.size + 1 := by rw [k8.1, k7.1, Heap.size_push]
  rw [hsz] at gq8 t8 z8
  refine wpAny_pure ⟨_, rfl, ?_⟩
  show Q (.ref g5.objs.size) _; rw [hsz]
  exact hQ g8 gq8 (up _ _ D.TOz o5) (e1.to fun o e => up _ o D.i1z e) (e2.to fun o e => up _ o D.i2z e) t8 z8 fun c o d1 d2 d3 d4 e => up c o d1 (kk c o d1 d2 d3 d4 e)
theorem zipM_end {t u : Bool} {q p1 p2 j1 j2 m1 m2 : Addr} {n1 n2 : Nat} {xs ys : Array Value} {a b : Value} {Q : Fin → Shared → Prop} (hh : A.handled = none) (D : ZipApart q p1 p2 j1 j2 m1 m2)
    (hq : IsZip s.heap q p1 p2 .none) (hp : IsPair s.heap p1 (.ref j1) (.ref j2)) (ho : IsPair s.heap p2 a b)
    (i1 : ItA t s.heap j1 m1 n1) (i2 : ItA u s.heap j2 m2 n2) (c1 : SqA t s.heap m1 xs) (c2 : SqA u s.heap m2 ys) (hend : xs[n1]? = none ∨ ys[n2]? = none)
    (hE : ∀ h' e, (∀ c o, c ≠ q → c ≠ p2 → c ≠ j1 → c ≠ j2 → s.heap.get? c = some o → h'.get? c = some o) → (∃ o, h'.get? e = some o ∧ o.cls = .type "StopIteration") → E (.ref e) { s with heap := h' }) :
    wpAny (model prog w) A (Builtin.«zip.__next__» ⟨[.ref q], []⟩) Q E s := by
  show wpAny _ _ (field (.ref q) 2 >>= _) _ _ _
  refine wpAny_bind (wpAny_field hq rfl (x := .bool false) rfl ?_)
  show wpAny _ _ (field (.ref q) 3 >>= _) _ _ _
  refine wpAny_bind (wpAny_field hq rfl (x := .ref p1) rfl ?_)
  refine wpAny_bind (wpAny_seqItems hp rfl ?_)
  show wpAny _ _ (Builtin.SmallTypes.ownedTupleIsFree (.ref q) >>= _) _ _ _
  refine wpAny_bind ?_; unfold Builtin.SmallTypes.ownedTupleIsFree
  refine wpAny_bind (wpAny_field hq rfl (x := .none) rfl (wpAny_pure ?_)); simp only [if_true]
  refine wpAny_bind (wpAny_rule ?_)
  refine wpAny_bind (wpAny_field hq rfl (x := .ref p2) rfl ?_)
  refine wpAny_bind (wpAny_setField_rec hq (by simp) fun g1 gq1 k1 => ?_)
  replace gq1 : IsZip g1 q p1 p2 .ellipsis := gq1
  refine wpAny_bind ?_; simp only [List.zipIdx_cons, List.zipIdx_nil, List.forIn_cons, List.forIn_nil]
  refine wpAny_bind (wpAny_bind (wpAny_onRaise ?_)); show wpAny _ _ (Builtin.SmallTypes.nextOf (.ref j1) >>= _) _ _ _
  cases hx : xs[n1]? with
  | none =>
    refine wpAny_bind (fin hh (i1.ex k1.extBut D.i1z) (c1.ex k1.extBut D.l1z) hx fun g2 e k2 he => ?_)
    obtain ⟨oe, hoe, hce⟩ := he
    have gq2 : IsZip g2 q p1 p2 .ellipsis := k2 _ _ D.i1z.symm gq1
    have eq' : e ≠ q := fun z => by subst z; rw [gq2] at hoe; cases hoe; simp at hce
    refine wpAny_setField_rec gq2 (by simp) fun g3 _ k3 => hE g3 e (fun c o d1 _ d3 _ z => k3.extBut _ _ d1 (k2 _ _ d3 (k1.extBut _ _ d1 z))) ⟨oe, k3.extBut _ _ eq' hoe, hce⟩
  | some x =>
    have hy : ys[n2]? = none := hend.resolve_left fun h => by rw [hx] at h; cases h
    refine wpAny_bind (nxt (i1.ex k1.extBut D.i1z) (c1.ex k1.extBut D.l1z) hx fun g2 r1 k2 => wpAny_pure ?_)
    have o2 : IsPair g2 p2 a b := k2.extBut _ _ D.TOi1 (k1.extBut _ _ D.TOz ho)
    refine wpAny_bind (wpAny_seqItems o2 rfl ?_)
    refine wpAny_bind (wpAny_updateSeq_pair o2 fun g3 o3 k3 => ?_)
    refine wpAny_bind (wpAny_letGo (wpAny_pure ?_))
    refine wpAny_bind (wpAny_bind (wpAny_onRaise ?_)); show wpAny _ _ (Builtin.SmallTypes.nextOf (.ref j2) >>= _) _ _ _
    refine wpAny_bind (fin hh (((i2.ex k1.extBut D.i2z).ex k2.extBut D.i12.symm).ex k3.extBut D.TOi2.symm) (((c2.ex k1.extBut D.l2z).ex k2.extBut D.l2i1).ex k3.extBut D.l2TO) hy fun g4 e k4 he => ?_)
    obtain ⟨oe, hoe, hce⟩ := he
    have gq4 : IsZip g4 q p1 p2 .ellipsis := k4 _ _ D.i2z.symm (k3.extBut _ _ D.TOz.symm (k2.extBut _ _ D.i1z.symm gq1))
    have eq' : e ≠ q := fun z => by subst z; rw [gq4] at hoe; cases hoe; simp at hce
    refine wpAny_setField_rec gq4 (by simp) fun g5 _ k5 => hE g5 e (fun c o d1 d2 d3 d4 z => k5.extBut _ _ d1 (k4 _ _ d4 (k3.extBut _ _ d2 (k2.extBut _ _ d3 (k1.extBut _ _ d1 z))))) ⟨oe, k5.extBut _ _ eq' hoe, hce⟩
theorem nextM_item {t u : Bool} {q p1 p2 j1 j2 m1 m2 : Addr} {n1 n2 : Nat} {xs ys : Array Value} {x y a b : Value} {Q : Option Value → Shared → Prop} (D : ZipApart q p1 p2 j1 j2 m1 m2)
    (hq : IsZip s.heap q p1 p2 .none) (hp : IsPair s.heap p1 (.ref j1) (.ref j2)) (ho : IsPair s.heap p2 a b)
    (i1 : ItA t s.heap j1 m1 n1) (i2 : ItA u s.heap j2 m2 n2) (c1 : SqA t s.heap m1 xs) (c2 : SqA u s.heap m2 ys) (hx : xs[n1]? = some x) (hy : ys[n2]? = some y)
    (hQ : ∀ h', IsZip h' q p1 p2 (rawInt s.heap.objs.size) → IsPair h' p2 x y → ItA t h' j1 m1 (n1 + 1) → ItA u h' j2 m2 (n2 + 1) → IsPair h' s.heap.objs.size x y → h'.objs.size = s.heap.objs.size + 1 →
      (∀ c o, c ≠ q → c ≠ p2 → c ≠ j1 → c ≠ j2 → s.heap.get? c = some o → h'.get? c = some o) → Q (some (.ref s.heap.objs.size)) { s with heap := h' }) : wpAny (model prog w) A (pyNext (.ref q)) Q E s := by
  have T : s.TypeIs (.ref q) "zip" := ⟨_, hq, rfl⟩
  unfold pyNext
  exact wpAny_bind (wpAny_attempt (wpAny_callSpecial?_slot (name := Str.ofString "__next__") T F.slot_zip_next (wpAny_call_entry F.slot_zip_next T F.entry_zip_next
    (zipM_item D hq hp ho i1 i2 c1 c2 hx hy fun h' a1 a2 a3 a4 a5 a6 a7 => wpAny_pure (hQ h' a1 a2 a3 a4 a5 a6 a7)) (F.args_zip_next_1 _))))
theorem nextM_end {t u : Bool} {q p1 p2 j1 j2 m1 m2 : Addr} {n1 n2 : Nat} {xs ys : Array Value} {a b : Value} {Q : Option Value → Shared → Prop} (hh : A.handled = none) (D : ZipApart q p1 p2 j1 j2 m1 m2)
    (hq : IsZip s.heap q p1 p2 .none) (hp : IsPair s.heap p1 (.ref j1) (.ref j2)) (ho : IsPair s.heap p2 a b)
    (i1 : ItA t s.heap j1 m1 n1) (i2 : ItA u s.heap j2 m2 n2) (c1 : SqA t s.heap m1 xs) (c2 : SqA u s.heap m2 ys) (hend : xs[n1]? = none ∨ ys[n2]? = none)
    (hQ : ∀ h', (∀ c o, c ≠ q → c ≠ p2 → c ≠ j1 → c ≠ j2 → s.heap.get? c = some o → h'.get? c = some o) → Q none { s with heap := h' }) : wpAny (model prog w) A (pyNext (.ref q)) Q E s := by
  have T : s.TypeIs (.ref q) "zip" := ⟨_, hq, rfl⟩
  unfold pyNext
  refine wpAny_bind (wpAny_attempt (wpAny_callSpecial?_slot (name := Str.ofString "__next__") T F.slot_zip_next (wpAny_call_entry F.slot_zip_next T F.entry_zip_next
    (zipM_end hh D hq hp ho i1 i2 c1 c2 hend fun h' e hk he => ?_) (F.args_zip_next_1 _))))
  obtain ⟨o, h1, h2⟩ := he
  exact wpAny_bind (wpAny_isInstance (T := "StopIteration") (b := true) ⟨o, h1, h2⟩ isSubtype_stop (wpAny_pure (hQ _ hk)))
end
abbrev nm (t : Bool) : String := match t with
  | true => "tuple_iterator"
  | false => "list_iterator"
abbrev h1' (t : Bool) (h : Heap) (a : Addr) : Heap := h.push { cls := .type (nm t), data := .fields #[.ref a, .int 0 0] }
abbrev h2' (t u : Bool) (h : Heap) (a b : Addr) : Heap := (h1' t h a).push { cls := .type (nm u), data := .fields #[.ref b, .int 0 0] }
abbrev h3' (t u : Bool) (h : Heap) (a b : Addr) : Heap := (h2' t u h a b).push { cls := .type "tuple", data := .seq #[.ref h.objs.size, .ref (h1' t h a).objs.size] }
abbrev h4' (t u : Bool) (h : Heap) (a b : Addr) : Heap := (h3' t u h a b).push { cls := .type "tuple", data := .seq #[.none, .none] }
abbrev h5' (t u : Bool) (h : Heap) (a b : Addr) : Heap := (h4' t u h a b).push { cls := .type "zip", data := .fields #[.none, .bool false, .bool false, .ref (h2' t u h a b).objs.size, .ref (h3' t u h a b).objs.size] }
theorem meetsLT (a b : Addr) (xs ys : Array Value) :
    Meets (Builtin.«zip.__new__» ⟨[.type "zip", .ref a, .ref b], []⟩) (fun _ R s => s.heap.IsList a xs ∧ s.heap.IsTuple b ys ∧ R (.ok (.ret (.ref (h4' false true s.heap a b).objs.size))) { s with heap := h5' false true s.heap a b }) :=
  .of_wp fun prog w A R s h => by
    obtain ⟨hp, g, d, tk, os⟩ := s; obtain ⟨c1, c2, h⟩ := h
    have hsub := sub_zip
    have e1 : Heap.IsList (Shared.heap ⟨hp, g, d, tk, os⟩) a xs := c1
    have e2 : Heap.IsTuple (Shared.heap ⟨hp.push { cls := .type "list_iterator", data := .fields #[.ref a, .int 0 0] }, g, d, tk, os⟩) b ys := Heap.IsTuple.push c2 _
    wp_walk using wpAny_pyIter_list e1, wpAny_pyIter_tuple e2
    exact ⟨_, rfl, h⟩
theorem meetsTL (a b : Addr) (xs ys : Array Value) :
    Meets (Builtin.«zip.__new__» ⟨[.type "zip", .ref a, .ref b], []⟩) (fun _ R s => s.heap.IsTuple a xs ∧ s.heap.IsList b ys ∧ R (.ok (.ret (.ref (h4' true false s.heap a b).objs.size))) { s with heap := h5' true false s.heap a b }) :=
  .of_wp fun prog w A R s h => by
    obtain ⟨hp, g, d, tk, os⟩ := s; obtain ⟨c1, c2, h⟩ := h
    have hsub := sub_zip
    have e1 : Heap.IsTuple (Shared.heap ⟨hp, g, d, tk, os⟩) a xs := c1
    have e2 : Heap.IsList (Shared.heap ⟨hp.push { cls := .type "tuple_iterator", data := .fields #[.ref a, .int 0 0] }, g, d, tk, os⟩) b ys := Heap.IsList.push c2 _
    wp_walk using wpAny_pyIter_tuple e1, wpAny_pyIter_list e2
    exact ⟨_, rfl, h⟩
section
variable {prog : Program} {w : World} {A : Around} {E : Value → Shared → Prop} {s : Shared}
theorem ItA.new {t : Bool} {h h' : Heap} {a : Addr} (e : h'.get? h.objs.size = some { cls := .type (nm t), data := .fields #[.ref a, .int 0 0] }) : ItA t h' h.objs.size a 0 := by
  cases t
  · exact ⟨_, e, rfl, rfl⟩
  · exact ⟨_, e, rfl, rfl⟩
theorem call_M {t u : Bool} {a b : Addr} {xs ys : Array Value} {Q : Value → Shared → Prop} (c1 : SqA t s.heap a xs) (c2 : SqA u s.heap b ys) (tu : t = !u)
    (h : ∀ h', IsZip h' (s.heap.objs.size + 4) (s.heap.objs.size + 2) (s.heap.objs.size + 3) .none → IsPair h' (s.heap.objs.size + 2) (.ref s.heap.objs.size) (.ref (s.heap.objs.size + 1)) →
      IsPair h' (s.heap.objs.size + 3) .none .none → ItA t h' s.heap.objs.size a 0 → ItA u h' (s.heap.objs.size + 1) b 0 → h'.objs.size = s.heap.objs.size + 5 →
      (∀ c o, s.heap.get? c = some o → h'.get? c = some o) → Q (.ref (s.heap.objs.size + 4)) { s with heap := h' }) : wpAny (model prog w) A (call (.type "zip") [.ref a, .ref b]) Q E s := by
  have key : Q (.ref (h4' t u s.heap a b).objs.size) { s with heap := h5' t u s.heap a b } := by
    have z1 : (h1' t s.heap a).objs.size = s.heap.objs.size + 1 := Heap.size_push ..
    have z2 : (h2' t u s.heap a b).objs.size = s.heap.objs.size + 2 := by rw [Heap.size_push, z1]
    have z3 : (h3' t u s.heap a b).objs.size = s.heap.objs.size + 3 := by rw [Heap.size_push, z2]
    have z4 : (h4' t u s.heap a b).objs.size = s.heap.objs.size + 4 := by rw [Heap.size_push, z3]
    have z5 : (h5' t u s.heap a b).objs.size = s.heap.objs.size + 5 := by rw [Heap.size_push, z4]
    have g5 : (h5' t u s.heap a b).get? (h4' t u s.heap a b).objs.size = some _ := Heap.get?_push_size _ rfl
    have g4 : (h5' t u s.heap a b).get? (h3' t u s.heap a b).objs.size = some _ := Heap.get?_push_of_some _ (Heap.get?_push_size _ rfl)
    have g3 : (h5' t u s.heap a b).get? (h2' t u s.heap a b).objs.size = some _ := Heap.get?_push_of_some _ (Heap.get?_push_of_some _ (Heap.get?_push_size _ rfl))
    have g2 : (h5' t u s.heap a b).get? (h1' t s.heap a).objs.size = some { cls := .type (nm u), data := .fields #[.ref b, .int 0 0] } := Heap.get?_push_of_some _ (Heap.get?_push_of_some _ (Heap.get?_push_of_some _ (Heap.get?_push_size _ rfl)))
    have g1 : (h5' t u s.heap a b).get? s.heap.objs.size = some { cls := .type (nm t), data := .fields #[.ref a, .int 0 0] } := Heap.get?_push_of_some _ (Heap.get?_push_of_some _ (Heap.get?_push_of_some _ (Heap.get?_push_of_some _ (Heap.get?_push_size _ rfl))))
    have k1 := ItA.new g1
    have k2 := ItA.new (h := h1' t s.heap a) g2
    rw [z2, z3, z4] at g5
    rw [z1, z2] at g3
    rw [z3] at g4
    rw [z1] at k2
    rw [z4]
    exact h _ g5 g3 g4 k1 k2 z5 fun c o x => Heap.get?_push_of_some _ (Heap.get?_push_of_some _ (Heap.get?_push_of_some _ (Heap.get?_push_of_some _ (Heap.get?_push_of_some _ x))))
  have g5 : (h5' t u s.heap a b).get? (h4' t u s.heap a b).objs.size = some _ := Heap.get?_push_size _ rfl
  cases t <;> cases u
  · cases tu
  · exact callType_new F.called_zip (by decide) (F.typeCall_zip_2 _ _) (F.newCall_zip_2 _ _) (fun obj => F.args_object_init_3 obj _ _) F.entry_zip_new (meetsLT a b xs ys) ⟨c1, c2, ⟨_, g5, rfl⟩, key⟩
  · exact callType_new F.called_zip (by decide) (F.typeCall_zip_2 _ _) (F.newCall_zip_2 _ _) (fun obj => F.args_object_init_3 obj _ _) F.entry_zip_new (meetsTL a b xs ys) ⟨c1, c2, ⟨_, g5, rfl⟩, key⟩
  · cases tu
end
def SqV (t : Bool) (K : PySem.W.Frag) (H : Hp) (a : Addr) (xs : List V) : Prop := match t with
  | true => SqT K H a xs
  | false => SqL K H a xs
theorem SqV.at {t : Bool} {X : Cx} {pins : List (Addr × Obj)} {σ : L2.St} {H : Hp} {s : Shared} {a : Addr} {xs : List V} (I : Inv X pins σ H s) (q : SqV t X.K H a xs) : ∃ its : List Value, Vals xs its ∧ SqA t s.heap a its.toArray := by
  cases t
  · obtain ⟨its, rv, p, _⟩ := I.list q; exact ⟨its, rv, p.isList⟩
  · obtain ⟨its, rv, p, _⟩ := I.tuple q; exact ⟨its, rv, p⟩
theorem SqV.inj {t : Bool} {X : Cx} {pins : List (Addr × Obj)} {σ : L2.St} {H : Hp} {s : Shared} {a : Addr} {xs ys : List V} (I : Inv X pins σ H s) (q : SqV t X.K H a xs) (q' : SqV t X.K H a ys) : xs = ys := by
  cases t
  · exact I.list_inj q q'
  · exact I.tuple_inj q q'
def ItzM (t u : Bool) (K : PySem.W.Frag) (a b : Addr) : It :=
  ⟨fun i H => ∃ (xs ys : List V) (x y : V), SqV t K H a xs ∧ SqV u K H b ys ∧ xs[i]? = some x ∧ ys[i]? = some y,
    fun i H v H' => ∃ T x y, v = .ref T ∧ H T = none ∧ H' = upd H T (.tup [x, y]) ∧ (∀ xs, SqV t K H a xs → xs[i]? = some x) ∧ ∀ ys, SqV u K H b ys → ys[i]? = some y,
    fun i H => ∃ xs ys : List V, SqV t K H a xs ∧ SqV u K H b ys ∧ (xs.length ≤ i ∨ ys.length ≤ i)⟩
theorem five {c z a b d e : Addr} (h : c ∈ [z, a, b, d, e]) : c = z ∨ c = a ∨ c = b ∨ c = d ∨ c = e := by simpa using h
theorem turn_M {t u : Bool} {P : Program} {w : World} {K : PySem.W.Frag} {elts : List Expr} {kk : Nat} {tpos : Pos} {a b q p1 p2 j1 j2 : Addr} (D : ZipApart q p1 p2 j1 j2 a b) :
    Turn P w K (.Tuple elts kk tpos) (ItzM t u K a b) [q, p1, p2, j1, j2] q (fun i h => IsZip h q p1 p2 .none ∧ IsPair h p1 (.ref j1) (.ref j2) ∧ (∃ x y, IsPair h p2 x y) ∧ ItA t h j1 a i ∧ ItA u h j2 b i) where
  mem := by simp
  obj := fun i h st c hc => by
    obtain ⟨hz, hp, ⟨x, y, ho⟩, k1, k2⟩ := st
    rcases five hc with e | e | e | e | e
    · subst e; exact ⟨_, hz, fun v z => nomatch z⟩
    · subst e; exact ⟨_, hp, fun v z => nomatch z⟩
    · subst e; exact ⟨_, ho, fun v z => nomatch z⟩
    · subst e; exact ItA.obj k1
    · subst e; exact ItA.obj k2
  keep := fun i h h' st k => by
    obtain ⟨hz, hp, ⟨x, y, ho⟩, k1, k2⟩ := st
    exact ⟨k q (by simp) _ hz, k p1 (by simp) _ hp, ⟨x, y, k p2 (by simp) _ ho⟩, k1.to fun o z => k j1 (by simp) o z, k2.to fun o z => k j2 (by simp) o z⟩
  item := by
    intro X hP hw hK hc i pins s σ H E I hf st hg
    subst hP hw hK
    obtain ⟨hz, hp, ⟨x0, y0, ho⟩, k1, k2⟩ := st
    obtain ⟨xs, ys, x, y, qx, qy, hx, hy⟩ := hg
    obtain ⟨its, rv, c1⟩ := qx.at I
    obtain ⟨its2, rv2, c2⟩ := qy.at I
    obtain ⟨v, hv, ru⟩ := rv.get hx
    obtain ⟨v2, hv2, ru2⟩ := rv2.get hy
    have hzl : q < s.heap.objs.size := Heap.lt_size hz
    refine nextM_item D hz hp ho k1 k2 c1 c2 (x := v) (y := v2) (by simpa using hv) (by simpa using hv2) fun g z' o' r1 r2 hT hsz hk => ?_
    refine ⟨_, rfl, wpAny_letOwnedTupleGo_zip (s := { s with heap := g }) z' fun g' z'' sb => ?_⟩
    have hT2 : g'.get? s.heap.objs.size = some { cls := .type "tuple", data := .seq #[v, v2] } := (sb.2 _ (Nat.ne_of_gt hzl)).trans hT
    have new : ObjOk X.prog X.w (upd H s.heap.objs.size (.tup [x, y])) g' s.heap.objs.size (.tup [x, y]) := ⟨by show 2 ≤ sizeLine; decide, [v, v2], .cons ru (.cons ru2 .nil), ⟨_, hT2, rfl, _, rfl⟩⟩
    have I1 : Inv X pins σ (upd H s.heap.objs.size (.tup [x, y])) { s with heap := g' } :=
      I.turnedNew (t' := s.toks) (ch := [q, p1, p2, j1, j2]) (fun c o hb e => (sb.2 c (fun e' => hb (by simp [e']))).trans (hk c o (fun e' => hb (by simp [e'])) (fun e' => hb (by simp [e'])) (fun e' => hb (by simp [e'])) (fun e' => hb (by simp [e'])) e)) hf (Nat.le_refl _) new
    refine ⟨.ref s.heap.objs.size, _, I1, rfl, ⟨_, x, y, rfl, I.hok.fresh (Nat.le_refl _), rfl, fun l hl => by rw [SqV.inj I hl qx]; exact hx, fun l hl => by rw [SqV.inj I hl qy]; exact hy⟩, ⟨z'', ?_, ⟨v, v2, ?_⟩, ?_, ?_⟩, fun c hcm => ?_⟩
    · exact (sb.2 _ D.TIz).trans (hk _ _ D.TIz D.TITO D.TIi1 D.TIi2 hp)
    · exact (sb.2 _ D.TOz).trans o'
    · exact r1.to fun o e => (sb.2 _ D.i1z).trans e
    · exact r2.to fun o e => (sb.2 _ D.i2z).trans e
    · have hlt : c < s.heap.objs.size := by
        rcases five hcm with e | e | e | e | e
        · subst e; exact hzl
        · subst e; exact Heap.lt_size hp
        · subst e; exact Heap.lt_size ho
        · subst e; exact ItA.lt k1
        · subst e; exact ItA.lt k2
      rw [upd_ne (Nat.ne_of_lt hlt)]
      exact (hf c hcm).1
  done := by
    intro X hP hw hK hc i pins s σ H E I hf st hg
    subst hP hw hK
    obtain ⟨hz, hp, ⟨x0, y0, ho⟩, k1, k2⟩ := st
    obtain ⟨xs, ys, qx, qy, hend⟩ := hg
    obtain ⟨its, rv, c1⟩ := qx.at I
    obtain ⟨its2, rv2, c2⟩ := qy.at I
    have l1 := rv.length
    have l2 := rv2.length
    have he : its.toArray[i]? = none ∨ its2.toArray[i]? = none := by
      rcases hend with z | z
      · exact .inl (by simp; omega)
      · exact .inr (by simp; omega)
    exact nextM_end (I.ok.hd hc) D hz hp ho k1 k2 c1 c2 he fun g hk => ⟨rfl, I.turnedL (t' := s.toks) (ch := [q, p1, p2, j1, j2]) (fun c o hb e =>
      hk c o (fun e' => hb (by simp [e'])) (fun e' => hb (by simp [e'])) (fun e' => hb (by simp [e'])) (fun e' => hb (by simp [e'])) e) hf⟩
  self := fun A i s Q E st h => wpAny_pyIter_zip st.1 h
def iZipM (K : PySem.W.Frag) (ta : TA) : TI := fun σ H R => ta σ H fun vs H1 => ∃ a b xs ys, vs = [.ref a, .ref b] ∧ ((SqL K H1 a xs ∧ SqL K H1 b ys ∧ R (Itz K a b) H1) ∨ (SqT K H1 a xs ∧ SqT K H1 b ys ∧ R (RZ.ItzT K a b) H1) ∨ ∃ t : Bool, SqV t K H1 a xs ∧ SqV (!t) K H1 b ys ∧ R (ItzM t (!t) K a b) H1)
theorem pi_zipM {X : Cx} {e e2 : Expr} {ta : TA} {p pos tpos : Pos} {elts : List Expr} {kk : Nat} (hg : Gl X "zip") (hm : X.mg "zip" = none) (ha : PA X [e, e2] ta)
    (hs : starEach [e, e2] X.env = (false, eval e X.env) :: starEach [e2] X.env := by rfl) (hpl : (backTo pos (starEach [e2] X.env)).any (·.1) = false := by rfl) : PI X (.Tuple elts kk tpos) (.Call (.Name "zip" p) [e, e2] [] pos) (iZipM X.K ta) := by
  refine ⟨fun pins s σ H R I h => ?_⟩
  refine Call_ (ld_blt I hg hm PyProof.Rows.boot_zip (PyProof.Rows.callWith_type1 (thn (ha.run pos pins s σ H _ I h) fun us s1 ⟨vs, H1, I1, r1, q1⟩ => ?_) hs hpl))
  obtain ⟨a, b, xs, ys, ex, q1⟩ := q1
  subst ex
  obtain ⟨u, us', rfl⟩ : ∃ u us', us = u :: us' := by cases r1; exact ⟨_, _, rfl⟩
  cases r1 with
  | cons r rr =>
    cases rr with
    | cons r' rr =>
      cases rr
      cases r
      cases r'
      have fresh5 : ∀ c, c ∈ [s1.heap.objs.size + 4, s1.heap.objs.size + 2, s1.heap.objs.size + 3, s1.heap.objs.size, s1.heap.objs.size + 1] → FpOk X pins H1 c := fun c hcm => by
        have hle : s1.heap.objs.size ≤ c := by
          rcases five hcm with e | e | e | e | e <;> (subst e; first | exact Nat.le_refl _ | exact Nat.le_add_right _ _)
        exact I1.fpOk hle (I1.hok.fresh hle)
      rcases q1 with ⟨hqx, hqy, q⟩ | ⟨hqx, hqy, q⟩ | ⟨t, hqx, hqy, q⟩
      · obtain ⟨its, rv, k1, _⟩ := I1.list hqx
        obtain ⟨its2, rv2, k2, _⟩ := I1.list hqy
        refine call_zip_2 k1.isList k2.isList fun g hz hp ho e1 e2 hsz hk => wpAny_pyIter_zip hz ?_
        have I2 : Inv X pins σ H1 { s1 with heap := g } := I1.kept (t' := s1.toks) hk
        exact ⟨s1.heap.objs.size + 4, [s1.heap.objs.size + 4, s1.heap.objs.size + 2, s1.heap.objs.size + 3, s1.heap.objs.size, s1.heap.objs.size + 1], _, _, H1, rfl, I2, turn_zip (PySem.W.ktu_apart s1.heap.objs.size a b k1.lt k2.lt), ⟨hz, hp, ⟨_, _, ho⟩, e1, e2⟩, fresh5, q⟩
      · obtain ⟨its, rv, k1, _⟩ := I1.tuple hqx
        obtain ⟨its2, rv2, k2, _⟩ := I1.tuple hqy
        refine RZ.call_zipT k1 k2 fun g hz hp ho e1 e2 hsz hk => wpAny_pyIter_zip hz ?_
        have I2 : Inv X pins σ H1 { s1 with heap := g } := I1.kept (t' := s1.toks) hk
        exact ⟨s1.heap.objs.size + 4, [s1.heap.objs.size + 4, s1.heap.objs.size + 2, s1.heap.objs.size + 3, s1.heap.objs.size, s1.heap.objs.size + 1], _, _, H1, rfl, I2, RZ.turn_zipT (PySem.W.ktu_apart s1.heap.objs.size a b k1.lt k2.lt), ⟨hz, hp, ⟨_, _, ho⟩, e1, e2⟩, fresh5, q⟩
      · obtain ⟨its, rv, k1⟩ := hqx.at I1
        obtain ⟨its2, rv2, k2⟩ := hqy.at I1
        have l1 : a < s1.heap.objs.size := by cases t <;> (obtain ⟨_, e, _⟩ := k1; exact Heap.lt_size e)
        have l2 : b < s1.heap.objs.size := by cases t <;> (obtain ⟨_, e, _⟩ := k2; exact Heap.lt_size e)
        refine call_M k1 k2 (by simp) fun g hz hp ho e1 e2 hsz hk => wpAny_pyIter_zip hz ?_
        have I2 : Inv X pins σ H1 { s1 with heap := g } := I1.kept (t' := s1.toks) hk
        exact ⟨s1.heap.objs.size + 4, [s1.heap.objs.size + 4, s1.heap.objs.size + 2, s1.heap.objs.size + 3, s1.heap.objs.size, s1.heap.objs.size + 1], _, _, H1, rfl, I2, turn_M (PySem.W.ktu_apart s1.heap.objs.size a b l1 l2), ⟨hz, hp, ⟨_, _, ho⟩, e1, e2⟩, fresh5, q⟩
end RM
/-! Core 11: what a loop walks. -/
namespace GW
open PySem L2
section
variable {F : Fx} {X : Cx} {W : WS} {pins : List (Addr × Obj)} {s : Shared} {st : L2.St} {H J H1 J1 H0 J0 : Hp} {r r1 r0 : List Addr} {S S0 : Store} {en : Enm}
variable {a b c e tg : Expr} {es : List Expr} {pos : Pos}
def Iok (F : Fx) (it : L2.It) (wk : Wk) (H0 J0 : Hp) (r0 : List Addr) : Prop := ∀ H J r S i, Le H0 J0 r0 H J r → Wo F H J r S → live S wk.cs wk.xs → (wk.its.length ≤ i → it.stop i H) ∧
  ∀ v, wk.its[i]? = some v → it.go i H ∧ ∀ x H', it.yld i H x H' → ∃ J', Wo F H' J' r S ∧ Le H J r H' J' r ∧ Rep F J' r v x
def PoW (F : Fx) (W : WS) (st : L2.St) (H J : Hp) (r : List Addr) (x : Res Wk) (R : L2.It → Hp → Prop) : Prop := match x with
  | .ok wk S' => ∀ H' J' r' it, Wo F H' J' r' S' → Le H J r H' J' r' → Iok F it wk H' J' r' → R it H'
  | .exc c fs S' => ∀ H' J' r' d ws, Wo F H' J' r' S' → Le H J r H' J' r' → J' d = some (.xd ((F.cf c).zip ws)) → Reps F J' r' fs ws → W.w (.ref (F.ca c)) (some d) st H'
  | .stk => False
def TW (F : Fx) (W : WS) (f : Enm → Store → Res Wk) : TI := fun st H R => ∃ en S J r, Wo F H J r S ∧ EnW F W J r en st ∧ PoW F W st H J r (f en S) R
theorem PoW.le {x : Res Wk} {R : L2.It → Hp → Prop} (l : Le H J r H1 J1 r1) (p : PoW F W st H J r x R) : PoW F W st H1 J1 r1 x R := by
  cases x with
  | ok v S => exact fun H' J' r' w a b c => p H' J' r' w a (l.trans b) c
  | exc c fs S => exact fun H' J' r' d ws a b e f => p H' J' r' d ws a (l.trans b) e f
  | stk => exact p
theorem TW.ofE {f : Enm → Store → Res Val} {g : Enm → Val → Store → Res Wk} {R : L2.It → Hp → Prop} (p : TW F W (fun en S => (f en S).bind (g en)) st H R) :
    TT F W f st H fun v H1 => ∃ en J1 r1 S1 x, EnW F W J1 r1 en st ∧ Wo F H1 J1 r1 S1 ∧ Rep F J1 r1 x v ∧ PoW F W st H1 J1 r1 (g en x S1) R := by
  obtain ⟨en, S, J, r, w, e, p⟩ := p
  refine ⟨en, S, J, r, w, e, ?_⟩
  dsimp only at p
  cases h : f en S with
  | ok v S1 =>
    rw [h] at p
    exact fun H' J' r' vw a b c => ⟨en, J', r', S1, v, e.le b, a, c, PoW.le b p⟩
  | exc c fs S1 => rw [h] at p; exact p
  | stk => rw [h] at p; exact p
def live1 (S : Store) (v : Val) (xs : List Val) : Prop := match v with
  | .ref l => S[l]? = some (.lst xs)
  | _ => True
theorem live_one {v : Val} {xs : List Val} (h : live S [v] [xs]) : live1 S v xs := by
  have h1 := h (v, xs) (by simp)
  cases v <;> first | trivial | exact h1
theorem live_two {v u : Val} {xs ys : List Val} (h : live S [v, u] [xs, ys]) : live1 S v xs ∧ live1 S u ys := by
  have h1 := h (v, xs) (by simp)
  have h2 := h (u, ys) (by simp)
  exact ⟨by cases v <;> first | trivial | exact h1, by cases u <;> first | trivial | exact h2⟩
theorem lst_at (hK : F.K = X.K) (w : Wo F H J r S) {v : Val} {u : V} {xs : List Val} (k : Rep F J r v u) (h : lstI S v = some xs) : ∃ a vs, u = .ref a ∧ SqL X.K H a vs ∧ Reps F J r xs vs := by
  unfold lstI at h
  split at h
  · cases h; cases k with
    | lst q t => exact ⟨_, _, rfl, SqL.of (w.sub _ _ q), t⟩
  · cases h; cases k with
    | scr q t => exact ⟨_, _, rfl, hK ▸ sqL_H w q, t⟩
  · split at h
    · rename_i e0
      cases h
      obtain ⟨q, ys, rfl, hq, t⟩ := seq_of hK w k e0
      exact ⟨q, ys, rfl, SqL.of hq, t⟩
    · cases h
  · cases h
theorem lst_later (hK : F.K = X.K) (l : Le H0 J0 r0 H J r) (w : Wo F H J r S) {v : Val} {u : V} {xs : List Val} (k : Rep F J0 r0 v u) (h : lstI S0 v = some xs) (lv : live1 S v xs) : ∃ a vs, u = .ref a ∧ SqL X.K H a vs ∧ Reps F J r xs vs := by
  refine lst_at hK w (k.le l) ?_
  unfold lstI at h ⊢
  split at h
  · exact h
  · exact h
  · split at h
    · cases h
      have lv : S[_]? = _ := lv
      rw [lv]
    · cases h
  · cases h
theorem tup_at (hK : F.K = X.K) (w : Wo F H J r S) {v : Val} {u : V} {xs : List Val} (k : Rep F J r v u) (h : tupI v = some xs) : ∃ a vs, u = .ref a ∧ SqT X.K H a vs ∧ Reps F J r xs vs := by
  unfold tupI at h
  split at h
  · cases h; cases k with
    | tup q t => exact ⟨_, _, rfl, hK ▸ sqT_H w q, t⟩
  · cases h
theorem get_same {vs : List V} {i : Nat} {x y : V} (h : vs[i]? = some x) (e : vs[i]? = some y) : x = y := by rw [h] at e; exact Option.some.inj e
/-! ### the iterators -/
theorem iok_list (hK : F.K = X.K) {v : Val} {p : Addr} {xs : List Val} (k : Rep F J0 r0 v (.ref p)) (h : lstI S0 v = some xs) : Iok F (Itl X.K p) ⟨[v], [xs], xs⟩ H0 J0 r0 := fun H J r S i l w lv => by
  obtain ⟨a, vs, e, hq, t⟩ := lst_later hK l w k h (live_one lv)
  cases e
  refine ⟨fun hi => ⟨vs, hq, by rw [t.length]; exact hi⟩, fun z hz => ?_⟩
  obtain ⟨vx, g1, g2⟩ := t.get hz
  refine ⟨⟨vs, vx, hq, g1⟩, fun x H' ⟨e1, e2⟩ => ?_⟩
  subst e1
  rw [get_same (e2 vs hq) g1]
  exact ⟨J, w, Le.refl, g2⟩
theorem iok_tup (hK : F.K = X.K) (w0 : Wo F H0 J0 r0 S0) {v : Val} {p : Addr} {xs : List Val} (k : Rep F J0 r0 v (.ref p)) (h : tupI v = some xs) (cs : List Val) (ys : List (List Val)) : Iok F (Itt X.K p) ⟨cs, ys, xs⟩ H0 J0 r0 := fun H J r S i l w lv => by
  obtain ⟨a, vs, e, hq, t⟩ := tup_at hK w (k.le l) h
  cases e
  refine ⟨fun hi => ⟨vs, hq, by rw [t.length]; exact hi⟩, fun z hz => ?_⟩
  obtain ⟨vx, g1, g2⟩ := t.get hz
  refine ⟨⟨vs, vx, hq, g1⟩, fun x H' ⟨e1, e2⟩ => ?_⟩
  subst e1
  rw [get_same (e2 vs hq) g1]
  exact ⟨J, w, Le.refl, g2⟩
theorem iok_str {z : Str} (cs : List Val) (ys : List (List Val)) : Iok F (Its z) ⟨cs, ys, z.cps.toList.map fun c => .str ⟨#[c]⟩⟩ H0 J0 r0 := fun H J r S i l w lv => by
  refine ⟨fun hi => by show z.cps.size ≤ i; simpa using hi, fun v hv => ?_⟩
  rw [List.getElem?_map, Option.map_eq_some_iff] at hv
  obtain ⟨c, hc, rfl⟩ := hv
  rw [Array.getElem?_toList] at hc
  refine ⟨(Array.getElem?_eq_some_iff.mp hc).1, fun x H' ⟨e1, c', e2, e3⟩ => ?_⟩
  subst e1
  rw [hc] at e2
  cases e2
  subst e3
  exact ⟨J, w, Le.refl, .str _⟩
theorem iok_rng (lo hi : Int) : Iok F (Itr lo (hi - lo).toNat) ⟨[], [], rngL lo hi⟩ H0 J0 r0 := fun H J r S i l w lv => by
  refine ⟨fun h => by show (hi - lo).toNat ≤ i; simpa [rngL] using h, fun v hv => ?_⟩
  unfold rngL at hv
  rw [List.getElem?_map, Option.map_eq_some_iff] at hv
  obtain ⟨c, hc, rfl⟩ := hv
  obtain ⟨hc1, hc2⟩ := List.getElem?_eq_some_iff.mp hc
  rw [List.getElem_range] at hc2
  subst hc2
  refine ⟨by show i < (hi - lo).toNat; simpa using hc1, fun x H' ⟨e1, e2⟩ => ?_⟩
  subst e1
  subst e2
  exact ⟨J, w, Le.refl, .int _⟩
theorem new_pair (w : Wo F H J r S) {T : Addr} (hT : H T = none) {x y : Val} {u v : V} (k1 : Rep F J r x u) (k2 : Rep F J r y v) : ∃ J', Wo F (upd H T (.tup [u, v])) J' r S ∧ Le H J r (upd H T (.tup [u, v])) J' r ∧ Rep F J' r (.tup [x, y]) (.ref T) := by
  obtain ⟨w2, l2⟩ := w.frz (o := .tup [u, v]) hT
  exact ⟨_, w2, l2, .tup (.inl (.inl upd_same)) (.cons (k1.le l2) (.cons (k2.le l2) .nil))⟩
theorem iok_enum (hK : F.K = X.K) {v : Val} {p : Addr} {xs : List Val} (k : Rep F J0 r0 v (.ref p)) (h : lstI S0 v = some xs) : Iok F (Ite X.K p) ⟨[v], [xs], xs.mapIdx fun (k : Nat) x => .tup [.int k, x]⟩ H0 J0 r0 := fun H J r S i l w lv => by
  obtain ⟨a, vs, e, hq, t⟩ := lst_later hK l w k h (live_one lv)
  cases e
  refine ⟨fun hi => ⟨vs, hq, by rw [t.length]; simpa using hi⟩, fun z hz => ?_⟩
  rw [List.getElem?_mapIdx, Option.map_eq_some_iff] at hz
  obtain ⟨y, hy, rfl⟩ := hz
  obtain ⟨vx, g1, g2⟩ := t.get hy
  refine ⟨⟨vs, vx, hq, g1⟩, fun x H' ⟨T, x', e0, hT, e1, e2⟩ => ?_⟩
  subst e1
  subst e0
  rw [get_same (e2 vs hq) g1]
  exact new_pair w hT (.int _) g2
theorem iok_enumT (hK : F.K = X.K) {v : Val} {p : Addr} {xs : List Val} (k : Rep F J0 r0 v (.ref p)) (h : tupI v = some xs) : Iok F (RE.IteT X.K p) ⟨[], [], xs.mapIdx fun (k : Nat) x => .tup [.int k, x]⟩ H0 J0 r0 := fun H J r S i l w lv => by
  obtain ⟨a, vs, e, hq, t⟩ := tup_at hK w (k.le l) h
  cases e
  refine ⟨fun hi => ⟨vs, hq, by rw [t.length]; simpa using hi⟩, fun z hz => ?_⟩
  rw [List.getElem?_mapIdx, Option.map_eq_some_iff] at hz
  obtain ⟨y, hy, rfl⟩ := hz
  obtain ⟨vx, g1, g2⟩ := t.get hy
  refine ⟨⟨vs, vx, hq, g1⟩, fun x H' ⟨T, x', e0, hT, e1, e2⟩ => ?_⟩
  subst e1
  subst e0
  rw [get_same (e2 vs hq) g1]
  exact new_pair w hT (.int _) g2
theorem iok_zip (hK : F.K = X.K) {v u : Val} {p q : Addr} {xs ys : List Val} (k : Rep F J0 r0 v (.ref p)) (h : lstI S0 v = some xs) (k2 : Rep F J0 r0 u (.ref q)) (h2 : lstI S0 u = some ys) :
    Iok F (Itz X.K p q) ⟨[v, u], [xs, ys], (xs.zip ys).map fun p => .tup [p.1, p.2]⟩ H0 J0 r0 := fun H J r S i l w lv => by
  obtain ⟨a, vs, e, hq, t⟩ := lst_later hK l w k h (live_two lv).1
  cases e
  obtain ⟨a, us, e, hq2, t2⟩ := lst_later hK l w k2 h2 (live_two lv).2
  cases e
  refine ⟨fun hi => ⟨vs, us, hq, hq2, ?_⟩, fun z hz => ?_⟩
  · rw [t.length, t2.length]
    simp only [List.length_map, List.length_zip] at hi
    omega
  · rw [List.getElem?_map, Option.map_eq_some_iff] at hz
    obtain ⟨⟨y1, y2⟩, hy, rfl⟩ := hz
    rw [List.getElem?_zip_eq_some] at hy
    obtain ⟨vx, g1, g2⟩ := t.get hy.1
    obtain ⟨vy, g3, g4⟩ := t2.get hy.2
    refine ⟨⟨vs, us, vx, vy, hq, hq2, g1, g3⟩, fun x H' ⟨T, x', y', e0, hT, e1, e2, e3⟩ => ?_⟩
    subst e1
    subst e0
    rw [get_same (e2 vs hq) g1, get_same (e3 us hq2) g3]
    exact new_pair w hT g2 g4
theorem iok_zipT (hK : F.K = X.K) {v u : Val} {p q : Addr} {xs ys : List Val} (k : Rep F J0 r0 v (.ref p)) (h : tupI v = some xs) (k2 : Rep F J0 r0 u (.ref q)) (h2 : tupI u = some ys) :
    Iok F (RZ.ItzT X.K p q) ⟨[], [], (xs.zip ys).map fun p => .tup [p.1, p.2]⟩ H0 J0 r0 := fun H J r S i l w lv => by
  obtain ⟨a, vs, e, hq, t⟩ := tup_at hK w (k.le l) h
  cases e
  obtain ⟨a, us, e, hq2, t2⟩ := tup_at hK w (k2.le l) h2
  cases e
  refine ⟨fun hi => ⟨vs, us, hq, hq2, ?_⟩, fun z hz => ?_⟩
  · rw [t.length, t2.length]
    simp only [List.length_map, List.length_zip] at hi
    omega
  · rw [List.getElem?_map, Option.map_eq_some_iff] at hz
    obtain ⟨⟨y1, y2⟩, hy, rfl⟩ := hz
    rw [List.getElem?_zip_eq_some] at hy
    obtain ⟨vx, g1, g2⟩ := t.get hy.1
    obtain ⟨vy, g3, g4⟩ := t2.get hy.2
    refine ⟨⟨vs, us, vx, vy, hq, hq2, g1, g3⟩, fun x H' ⟨T, x', y', e0, hT, e1, e2, e3⟩ => ?_⟩
    subst e1
    subst e0
    rw [get_same (e2 vs hq) g1, get_same (e3 us hq2) g3]
    exact new_pair w hT g2 g4
theorem iok_zipLT (hK : F.K = X.K) {v u : Val} {p q : Addr} {xs ys : List Val} (k : Rep F J0 r0 v (.ref p)) (h : lstI S0 v = some xs) (k2 : Rep F J0 r0 u (.ref q)) (h2 : tupI u = some ys) :
    Iok F (RM.ItzM false true X.K p q) ⟨[v], [xs], (xs.zip ys).map fun p => .tup [p.1, p.2]⟩ H0 J0 r0 := fun H J r S i l w lv => by
  obtain ⟨a, vs, e, hq, t⟩ := lst_later hK l w k h (live_one lv)
  cases e
  obtain ⟨a, us, e, hq2, t2⟩ := tup_at hK w (k2.le l) h2
  cases e
  refine ⟨fun hi => ⟨vs, us, hq, hq2, ?_⟩, fun z hz => ?_⟩
  · rw [t.length, t2.length]
    simp only [List.length_map, List.length_zip] at hi
    omega
  · rw [List.getElem?_map, Option.map_eq_some_iff] at hz
    obtain ⟨⟨y1, y2⟩, hy, rfl⟩ := hz
    rw [List.getElem?_zip_eq_some] at hy
    obtain ⟨vx, g1, g2⟩ := t.get hy.1
    obtain ⟨vy, g3, g4⟩ := t2.get hy.2
    refine ⟨⟨vs, us, vx, vy, hq, hq2, g1, g3⟩, fun x H' ⟨T, x', y', e0, hT, e1, e2, e3⟩ => ?_⟩
    subst e1
    subst e0
    rw [get_same (e2 vs hq) g1, get_same (e3 us hq2) g3]
    exact new_pair w hT g2 g4
theorem iok_zipTL (hK : F.K = X.K) {v u : Val} {p q : Addr} {xs ys : List Val} (k : Rep F J0 r0 v (.ref p)) (h : tupI v = some xs) (k2 : Rep F J0 r0 u (.ref q)) (h2 : lstI S0 u = some ys) :
    Iok F (RM.ItzM true false X.K p q) ⟨[u], [ys], (xs.zip ys).map fun p => .tup [p.1, p.2]⟩ H0 J0 r0 := fun H J r S i l w lv => by
  obtain ⟨a, vs, e, hq, t⟩ := tup_at hK w (k.le l) h
  cases e
  obtain ⟨a, us, e, hq2, t2⟩ := lst_later hK l w k2 h2 (live_one lv)
  cases e
  refine ⟨fun hi => ⟨vs, us, hq, hq2, ?_⟩, fun z hz => ?_⟩
  · rw [t.length, t2.length]
    simp only [List.length_map, List.length_zip] at hi
    omega
  · rw [List.getElem?_map, Option.map_eq_some_iff] at hz
    obtain ⟨⟨y1, y2⟩, hy, rfl⟩ := hz
    rw [List.getElem?_zip_eq_some] at hy
    obtain ⟨vx, g1, g2⟩ := t.get hy.1
    obtain ⟨vy, g3, g4⟩ := t2.get hy.2
    refine ⟨⟨vs, us, vx, vy, hq, hq2, g1, g3⟩, fun x H' ⟨T, x', y', e0, hT, e1, e2, e3⟩ => ?_⟩
    subst e1
    subst e0
    rw [get_same (e2 vs hq) g1, get_same (e3 us hq2) g3]
    exact new_pair w hT g2 g4
theorem rev_at {xs : List Val} {i : Nat} {z : Val} (h : xs.reverse[i]? = some z) : i < xs.length ∧ xs[xs.length - 1 - i]? = some z := by
  have hi : i < xs.reverse.length := (List.getElem?_eq_some_iff.mp h).1
  rw [List.length_reverse] at hi
  exact ⟨hi, by rw [List.getElem?_reverse hi] at h; exact h⟩
theorem iok_rev (hK : F.K = X.K) {v : Val} {p : Addr} {xs : List Val} (k : Rep F J0 r0 v (.ref p)) (h : lstI S0 v = some xs) {n : Nat} (hn : n = xs.length) : Iok F (Itv X.K p n) ⟨[v], [xs], xs.reverse⟩ H0 J0 r0 := fun H J r S i l w lv => by
  subst hn
  obtain ⟨a, vs, e, hq, t⟩ := lst_later hK l w k h (live_one lv)
  cases e
  refine ⟨fun hi => by show xs.length ≤ i; simpa using hi, fun z hz => ?_⟩
  obtain ⟨h1, h2⟩ := rev_at hz
  obtain ⟨vx, g1, g2⟩ := t.get h2
  refine ⟨⟨h1, vs, vx, hq, g1⟩, fun x H' ⟨e1, e2⟩ => ?_⟩
  subst e1
  rw [get_same (e2 vs hq) g1]
  exact ⟨J, w, Le.refl, g2⟩
theorem iok_revT (hK : F.K = X.K) {v : Val} {p : Addr} {xs : List Val} (k : Rep F J0 r0 v (.ref p)) (h : tupI v = some xs) {n : Nat} (hn : n = xs.length) : Iok F (RT.ItvT X.K p n) ⟨[], [], xs.reverse⟩ H0 J0 r0 := fun H J r S i l w lv => by
  subst hn
  obtain ⟨a, vs, e, hq, t⟩ := tup_at hK w (k.le l) h
  cases e
  refine ⟨fun hi => by show xs.length ≤ i; simpa using hi, fun z hz => ?_⟩
  obtain ⟨h1, h2⟩ := rev_at hz
  obtain ⟨vx, g1, g2⟩ := t.get h2
  refine ⟨⟨h1, vs, vx, hq, g1⟩, fun x H' ⟨e1, e2⟩ => ?_⟩
  subst e1
  rw [get_same (e2 vs hq) g1]
  exact ⟨J, w, Le.refl, g2⟩
/-! ### as iterables -/
theorem PoW.here {wk : Wk} {R : L2.It → Hp → Prop} (p : PoW F W st H J r (.ok wk S) R) (w : Wo F H J r S) {it : L2.It} (i : Iok F it wk H J r) : R it H := p H J r it w Le.refl i
theorem si_val (hK : F.K = X.K) {f : Enm → Store → Res Val} (hl : PE X e (TT F W f)) : PI X tg e (TW F W fun en S => (f en S).bind fun v S1 => match items S1 v with
    | some xs => .ok ⟨[v], [xs], xs⟩ S1
    | none => .stk) := by
  refine ⟨fun pins s st H R I q => ?_⟩
  refine thn (hl.run pins s st H _ I (TW.ofE (g := fun _ v S1 => match items S1 v with
    | some xs => .ok ⟨[v], [xs], xs⟩ S1
    | none => .stk) q)) fun u s1 ⟨x, H1, I1, ru, en, J1, r1, S1, v, e1, w, k, p⟩ => ?_
  split at p
  · rename_i xs hx
    unfold items at hx
    cases h1 : lstI S1 v with
    | some ys =>
      rw [h1] at hx
      cases hx
      obtain ⟨a, vs, rfl, hq, t⟩ := lst_at hK w k h1
      cases ru
      obtain ⟨its, rv, pl, hz⟩ := I1.list hq
      exact wpAny_pyIter_list pl.isList (pi_one (tk := s1.toks) I1 _ (turn_list a _) ⟨_, Heap.get?_push_size _ rfl, rfl, rfl⟩ (p.here w (iok_list hK k h1)))
    | none =>
      rw [h1] at hx
      dsimp only at hx
      cases h2 : tupI v with
      | some ys =>
        rw [h2] at hx
        cases hx
        obtain ⟨a, vs, rfl, hq, t⟩ := tup_at hK w k h2
        cases ru
        obtain ⟨its, rv, pl, hz⟩ := I1.tuple hq
        exact wpAny_pyIter_tuple (show s1.heap.IsTuple a its.toArray from pl) (pi_one (tk := s1.toks) I1 _ (turn_tuple a _) ⟨_, Heap.get?_push_size _ rfl, rfl, rfl⟩ (p.here w (iok_tup hK w k h2 _ _)))
      | none =>
        rw [h2] at hx
        dsimp only at hx
        unfold strI at hx
        split at hx
        · rename_i z
          cases hx
          cases k
          obtain ⟨t, rfl⟩ := ru
          have q := p.here w (iok_str (z := z) _ _)
          cases ha : z.cps.all (· < 128)
          · exact wpAny_pyIter_wide ha (pi_one (tk := s1.toks) I1 _ (turn_str _ z t "str_iterator" (.inr rfl)) ⟨_, Heap.get?_push_size _ rfl, rfl, rfl⟩ q)
          · exact wpAny_pyIter_ascii ha (pi_one (tk := s1.toks) I1 _ (turn_str _ z t "str_ascii_iterator" (.inl rfl)) ⟨_, Heap.get?_push_size _ rfl, rfl, rfl⟩ q)
        · cases hx
  · exact p.elim
theorem inR_ok {j : Int} (h : inR j = true) : -(2 ^ 62) ≤ j ∧ j < 2 ^ 62 := by
  unfold inR at h
  simpa using h
theorem si_rng1 {f : Enm → Store → Res Val} {p : Pos} (hg : Gl X "range") (hm : X.mg "range" = none) (hx : okX e = true) (hl : PE X e (TT F W f)) : PI X tg (.Call (.Name "range" p) [e] [] pos) (TW F W fun en S => (f en S).bind rng1W) := by
  refine ⟨fun pins s st H R I q => (pi_range1 hg hm (pa_cons hl pa_nil (okX_star hx _ _)) (okX_star hx _ _)).run pins s st H R I ?_⟩
  refine TT.mono (fun u H1 ⟨en, J1, r1, S1, v, e1, w, k, p⟩ => ?_) (TW.ofE (g := fun _ => rng1W) q)
  unfold rng1W at p
  split at p
  · rename_i j
    cases k
    split at p
    · rename_i hj
      obtain ⟨h1, h2⟩ := inR_ok hj
      refine ⟨j, rfl, h1, h2, p.here w ?_⟩
      have q := iok_rng (F := F) (H0 := H1) (J0 := J1) (r0 := r1) 0 j
      rw [Int.sub_zero] at q
      exact q
    · exact p.elim
  · exact p.elim
theorem two_W {f : Enm → Store → Res Val} {g : Val → Store → Res Wk} {R : L2.It → Hp → Prop} (w : Wo F H1 J1 r1 S) (e1 : EnW F W J1 r1 en st) (p : PoW F W st H1 J1 r1 ((f en S).bind g) R) :
    TT F W f st H1 fun u2 H2 => ∃ J2 r2 S2 x2, Wo F H2 J2 r2 S2 ∧ Le H1 J1 r1 H2 J2 r2 ∧ Rep F J2 r2 x2 u2 ∧ PoW F W st H2 J2 r2 (g x2 S2) R := by
  refine ⟨en, S, J1, r1, w, e1, ?_⟩
  cases h : f en S with
  | ok x S2 =>
    rw [h] at p
    exact fun H' J' r' u2 a1 a2 a3 => ⟨J', r', S2, x, a1, a2, a3, PoW.le a2 p⟩
  | exc c fs S' => rw [h] at p; exact p
  | stk => rw [h] at p; exact p
theorem si_rng2 {f g : Enm → Store → Res Val} {p : Pos} (hg : Gl X "range") (hm : X.mg "range" = none) (hx : okX a = true) (hy : okX b = true) (ha : PE X a (TT F W f)) (hb : PE X b (TT F W g)) :
    PI X tg (.Call (.Name "range" p) [a, b] [] pos) (TW F W fun en S => (f en S).bind fun v S1 => (g en S1).bind fun u S2 => rng2W v u S2) := by
  refine ⟨fun pins s st H R I q => (pi_range2 hg hm (pa_cons ha (pa_cons hb pa_nil (okX_star hy _ _)) (okX_star hx _ _)) (by rw [okX_star hx, okX_star hy]; rfl) (okX_star hy _ _)).run pins s st H R I ?_⟩
  refine TT.mono (fun u H1 ⟨en, J1, r1, S1, v, e1, w, k, p⟩ => ?_) (TW.ofE (g := fun en v S1 => (g en S1).bind fun u S2 => rng2W v u S2) q)
  refine TT.mono (fun u2 H2 ⟨J2, r2, S2, v2, w2, l2, k2, p2⟩ => ?_) (two_W w e1 p)
  unfold rng2W at p2
  split at p2
  · rename_i i j
    cases k
    cases k2
    split at p2
    · rename_i hj
      obtain ⟨h1, h2⟩ := inR_ok hj.1
      obtain ⟨h3, h4⟩ := inR_ok hj.2
      exact ⟨_, _, rfl, ⟨h1, h2, h3, h4⟩, p2.here w2 (iok_rng _ _)⟩
    · exact p2.elim
  · exact p2.elim
theorem si_enm (hK : F.K = X.K) {f : Enm → Store → Res Val} {p tpos : Pos} {elts : List Expr} {kk : Nat} (hg : Gl X "enumerate") (hm : X.mg "enumerate" = none) (hx : okX e = true) (hl : PE X e (TT F W f)) :
    PI X (.Tuple elts kk tpos) (.Call (.Name "enumerate" p) [e] [] pos) (TW F W fun en S => (f en S).bind fun v S1 => enmW v S1) := by
  refine ⟨fun pins s st H R I q => (RE.pi_enumA hg hm (pa_cons hl pa_nil (okX_star hx _ _)) (okX_star hx _ _)).run pins s st H R I ?_⟩
  refine TT.mono (fun u H1 ⟨en, J1, r1, S1, v, e1, w, k, p⟩ => ?_) (TW.ofE (g := fun _ v S1 => enmW v S1) q)
  unfold enmW at p
  split at p
  · rename_i xs hx
    obtain ⟨a, vs, rfl, hq, t⟩ := lst_at hK w k hx
    exact ⟨a, vs, rfl, .inl ⟨hq, p.here w (iok_enum hK k hx)⟩⟩
  · split at p
    · rename_i xs hx
      obtain ⟨a, vs, rfl, hq, t⟩ := tup_at hK w k hx
      exact ⟨a, vs, rfl, .inr ⟨hq, p.here w (iok_enumT hK k hx)⟩⟩
    · exact p.elim
theorem si_rev (hK : F.K = X.K) {f : Enm → Store → Res Val} {p : Pos} (hg : Gl X "reversed") (hm : X.mg "reversed" = none) (hx : okX e = true) (hl : PE X e (TT F W f)) :
    PI X tg (.Call (.Name "reversed" p) [e] [] pos) (TW F W fun en S => (f en S).bind fun v S1 => revW v S1) := by
  refine ⟨fun pins s st H R I q => (RT.pi_revA hg hm hl (okX_star hx _ _)).run pins s st H R I ?_⟩
  refine TT.mono (fun u H1 ⟨en, J1, r1, S1, v, e1, w, k, p⟩ => ?_) (TW.ofE (g := fun _ v S1 => revW v S1) q)
  unfold revW at p
  split at p
  · rename_i xs hx
    obtain ⟨a, vs, rfl, hq, t⟩ := lst_at hK w k hx
    exact ⟨a, vs, rfl, .inl ⟨hq, p.here w (iok_rev hK k hx t.length)⟩⟩
  · split at p
    · rename_i xs hx
      obtain ⟨a, vs, rfl, hq, t⟩ := tup_at hK w k hx
      exact ⟨a, vs, rfl, .inr ⟨hq, p.here w (iok_revT hK k hx t.length)⟩⟩
    · exact p.elim
theorem si_zip (hK : F.K = X.K) {f g : Enm → Store → Res Val} {p tpos : Pos} {elts : List Expr} {kk : Nat} (hg : Gl X "zip") (hm : X.mg "zip" = none) (hx : okX a = true) (hy : okX b = true) (ha : PE X a (TT F W f)) (hb : PE X b (TT F W g)) :
    PI X (.Tuple elts kk tpos) (.Call (.Name "zip" p) [a, b] [] pos) (TW F W fun en S => (f en S).bind fun v S1 => (g en S1).bind fun u S2 => zipW v u S2) := by
  refine ⟨fun pins s st H R I q => (RM.pi_zipM hg hm (pa_cons ha (pa_cons hb pa_nil (okX_star hy _ _)) (okX_star hx _ _)) (okX_star hx _ _) (okXs_any _ _ (by simp [okXs, hy]))).run pins s st H R I ?_⟩
  refine TT.mono (fun u H1 ⟨en, J1, r1, S1, v, e1, w, k, p⟩ => ?_) (TW.ofE (g := fun en v S1 => (g en S1).bind fun u S2 => zipW v u S2) q)
  refine TT.mono (fun u2 H2 ⟨J2, r2, S2, x2, w2, l2, k2, p2⟩ => ?_) (two_W w e1 p)
  unfold zipW at p2
  split at p2
  · rename_i xs ys hx hy
    obtain ⟨a, vs, rfl, hq, t⟩ := lst_at hK w2 (k.le l2) hx
    obtain ⟨b, us, rfl, hq2, t2⟩ := lst_at hK w2 k2 hy
    exact ⟨a, b, vs, us, rfl, .inl ⟨hq, hq2, p2.here w2 (iok_zip hK (k.le l2) hx k2 hy)⟩⟩
  · rename_i xs hx _
    split at p2
    · rename_i ys hy
      obtain ⟨a, vs, rfl, hq, t⟩ := lst_at hK w2 (k.le l2) hx
      obtain ⟨b, us, rfl, hq2, t2⟩ := tup_at hK w2 k2 hy
      exact ⟨a, b, vs, us, rfl, .inr (.inr ⟨false, hq, hq2, p2.here w2 (iok_zipLT hK (k.le l2) hx k2 hy)⟩)⟩
    · exact p2.elim
  · rename_i ys _ hy
    split at p2
    · rename_i xs hx
      obtain ⟨a, vs, rfl, hq, t⟩ := tup_at hK w2 (k.le l2) hx
      obtain ⟨b, us, rfl, hq2, t2⟩ := lst_at hK w2 k2 hy
      exact ⟨a, b, vs, us, rfl, .inr (.inr ⟨true, hq, hq2, p2.here w2 (iok_zipTL hK (k.le l2) hx k2 hy)⟩)⟩
    · exact p2.elim
  · split at p2
    · rename_i xs ys hx hy
      obtain ⟨a, vs, rfl, hq, t⟩ := tup_at hK w2 (k.le l2) hx
      obtain ⟨b, us, rfl, hq2, t2⟩ := tup_at hK w2 k2 hy
      exact ⟨a, b, vs, us, rfl, .inr (.inl ⟨hq, hq2, p2.here w2 (iok_zipT hK (k.le l2) hx k2 hy)⟩)⟩
    · exact p2.elim
end
end GW
/-! Core 12: list comprehensions. -/
namespace GW
open PySem L2
theorem wipe_keep {i : Nat} : ∀ {vs : List Nat} {st : L2.St}, i ∉ vs → (wipe st vs)[i]? = st[i]?
  | [], _, _ => rfl
  | v :: vs, st, h => by
    unfold wipe
    rw [List.getElem?_set_ne (fun z => h (by rw [z]; exact List.mem_cons_self ..)), wipe_keep fun z => h (List.mem_cons_of_mem _ z)]
theorem wipe_set {i : Nat} {y : Option V} : ∀ {vs : List Nat} {st : L2.St}, i ∈ vs → wipe (st.set i y) vs = wipe st vs
  | v :: vs, st, h => by
    unfold wipe
    by_cases hi : i ∈ vs
    · rw [wipe_set hi]
    · rcases List.mem_cons.mp h with rfl | h
      · have e : ∀ (ws : List Nat) (st : L2.St), i ∉ ws → wipe (st.set i y) ws = (wipe st ws).set i y := by
          intro ws
          induction ws with
          | nil => intro st _; rfl
          | cons w ws ih =>
            intro st hn
            unfold wipe
            rw [ih st fun z => hn (List.mem_cons_of_mem _ z), List.set_comm _ _ fun z => hn (by rw [z]; exact List.mem_cons_self ..)]
        rw [e vs st hi, List.set_set]
      · exact absurd h hi
theorem wipe_sets {ws : List Nat} : ∀ {is : List Nat} {vs : List V} {st : L2.St}, (∀ i ∈ is, i ∈ ws) → wipe (sets st is vs) ws = wipe st ws
  | [], _, _, _ => rfl
  | _ :: _, [], _, _ => rfl
  | i :: is, v :: vs, st, h => by
    show wipe (sets (st.set i (some v)) is vs) ws = _
    rw [wipe_sets fun j hj => h j (List.mem_cons_of_mem _ hj), wipe_set (h i (List.mem_cons_self ..))]
theorem wipe_idem (ws : List Nat) (st : L2.St) : wipe (wipe st ws) ws = wipe st ws := by
  have e : ∀ (vs : List Nat) (st : L2.St), (∀ i ∈ vs, i ∈ ws) → wipe (wipe st vs) ws = wipe st ws := by
    intro vs
    induction vs with
    | nil => intro st _; rfl
    | cons v vs ih =>
      intro st h
      show wipe ((wipe st vs).set v none) ws = _
      rw [wipe_set (h v (List.mem_cons_self ..)), ih st fun i hi => h i (List.mem_cons_of_mem _ hi)]
  exact e ws st fun _ h => h
theorem wipe_stT {t : Tg} {x : V} {vs : List V} {st : L2.St} {ws : List Nat} (h : ∀ i ∈ t.ixs, i ∈ ws) : wipe (stT t x vs st) ws = wipe st ws := by
  cases t with
  | one i => exact wipe_set (h i (by simp [Tg.ixs]))
  | tup is => exact wipe_sets h
section
variable {F : Fx} {X : Cx} {W : WS} {pins : List (Addr × Obj)} {s : Shared} {st : L2.St} {H J H1 J1 H0 J0 : Hp} {r r1 r0 : List Addr} {S S0 : Store} {en : Enm}
variable {a b c e tg : Expr} {es : List Expr} {pos : Pos}
variable {T : Tab} {k : Nat} {O : Om} {np : Nat → Nat} {G : Ck}
theorem Wo.upA (w : Wo F H J r S) (l : Le H0 J0 r0 H J r) {p : Addr} (u : HO) (h0 : H0 p = none) (hr : p ∉ r) (hj : J p = none) : Wo F (upd H p u) J r S ∧ Le H0 J0 r0 (upd H p u) J r := by
  refine ⟨⟨fun a z e => ?_, w.dis, w.nd, w.len, fun m q e => ?_⟩, ⟨fun a z e n => ?_, l.pre, l.jj, l.new, fun a e z => ?_⟩⟩
  · rw [upd_ne (ne_of_none e hj)]; exact w.sub a z e
  · obtain ⟨a, e1, k⟩ := w.obs m q e
    have ha : a ≠ p := fun z => hr (z ▸ List.mem_of_getElem? e1)
    exact ⟨a, e1, k.up (fun _ _ z => z) (List.prefix_refl _) (upd_ne ha).symm⟩
  · obtain ⟨q1, q2⟩ := l.keep a z e n
    exact ⟨by rw [upd_ne (ne_of_none e h0)]; exact q1, q2⟩
  · by_cases ha : a = p
    · subst ha; exact e h0
    · rw [upd_ne ha] at z; exact l.trk a e z
theorem aside_keep (l : Le H J r H1 J1 r1) {p : Addr} {u : HO} (h : H p = some u) (hr : p ∉ r) (hj : J p = none) : H1 p = some u ∧ p ∉ r1 ∧ J1 p = none := by
  obtain ⟨q1, q2⟩ := l.keep p u h hr
  refine ⟨q1, q2, ?_⟩
  cases z : J1 p with
  | none => rfl
  | some o =>
    rcases l.new p o z with y | y
    · rw [hj] at y; cases y
    · rw [h] at y; cases y
theorem upd_self {p : Addr} {u : HO} (h : H p = some u) : upd H p u = H := by
  funext a
  by_cases ha : a = p
  · subst ha; rw [upd_same, h]
  · rw [upd_ne ha]
theorem TW.ofL {f : Enm → Store → Res Wk} {g : Enm → Wk → Store → Res Val} {Q : VK} {R : L2.It → Hp → Prop} (p : TT F W (fun en S => (f en S).bind (g en)) st H Q)
    (k : ∀ H1 J1 r1 S1 en wk it, Wo F H1 J1 r1 S1 → EnW F W J1 r1 en st → Iok F it wk H1 J1 r1 → PoE F W st H1 J1 r1 (g en wk S1) Q → R it H1) : TW F W f st H R := by
  obtain ⟨en, S, J, r, w, e, p⟩ := p
  refine ⟨en, S, J, r, w, e, ?_⟩
  dsimp only at p
  cases h : f en S with
  | ok wk S1 =>
    rw [h] at p
    exact fun H' J' r' it a b c => k H' J' r' S1 en wk it a (e.le b) c (p.le b)
  | exc c fs S1 => rw [h] at p; exact p
  | stk => rw [h] at p; exact p
theorem tlc_ok (hK : F.K = X.K) (hsd : W.sd = []) (bb : Bool) (t : Tg) {ws : List Nat} (h1 : ∀ i ∈ t.ixs, i ∈ ws) (h2 : ∀ i ∈ ws, i ∈ t.ixs) (hn : ∀ i ∈ t.ixs, i < st.length) {fi : Enm → Store → Res Wk} {fc : Enm → Store → Res Bool} {fe : Enm → Store → Res Val} {Q : VK}
    (p : TT F W (fun en S => (fi en S).bind fun wk S1 => (lcF wk.cs wk.xs t fc fe en wk.its [] S1).bind fun ys S2 => mkL bb ys S2) st H Q) : tLc (TW F W fi) (gTg X.K t) (TB F W0 fc) (TT F W0 fe) ws st H Q := by
  refine TW.ofL (g := fun en wk S1 => (lcF wk.cs wk.xs t fc fe en wk.its [] S1).bind fun ys S2 => mkL bb ys S2) p fun H1 J1 r1 S1 en wk it w1 e1 ik p1 D hD => ?_
  replace e1 := e1.en
  rw [show W.st st = st from by rw [WS.st, hsd]; simp] at e1
  let Wm : Nat → Nat → Hp → Prop := fun i m H => ∃ J r S acc vacc, m = wk.its.length - i ∧ Wo F H J r S ∧ Le H1 J1 r1 H J r ∧ D ∉ r ∧ J D = none ∧ H D = some (.lst vacc) ∧ Reps F J r acc vacc ∧
    PoE F W st H1 J1 r1 ((lcF wk.cs wk.xs t fc fe en (wk.its.drop i) acc S).bind fun ys S2 => mkL bb ys S2) Q
  obtain ⟨wa, la, n1, n2⟩ := w1.aside (u := .lst []) hD
  refine ⟨Wm, ⟨_, J1, r1, S1, [], [], rfl, wa, la, n1, n2, upd_same, .nil, p1⟩, ?_⟩
  rintro i m H ⟨J, r, S, acc, vacc, rfl, w, l, d1, d2, d3, ta, p⟩
  cases hd : wk.its.drop i with
  | nil =>
    left
    rw [hd] at p
    unfold lcF at p
    split at p
    · rename_i lv
      refine ⟨(ik H J r S i l w lv).1 (List.drop_eq_nil_iff.mp hd), ?_⟩
      simp only [Res.bind_ok] at p
      unfold mkL at p
      split at p
      · split at p
        · obtain ⟨w3, l3⟩ := w.own l (p := D) (u := .lst vacc) (o := .lst acc) hD d1 d2 ⟨vacc, upd_same, ta.up (fun _ _ z => z) (List.prefix_append _ _)⟩
          rw [upd_self d3] at w3 l3
          exact p _ _ _ _ w3 l3 (.ref (by rw [← w.len]; simp))
        · obtain ⟨w3, l3⟩ := w.ownF l (p := D) (u := .lst vacc) hD d1 d2
          rw [upd_self d3] at w3 l3
          refine p _ _ _ _ w3 l3 (.lst upd_same (ta.up (fun a o e => ?_) (List.prefix_refl _)))
          rw [upd_ne (ne_of_none e d2)]; exact e
      · exact p.elim
    · exact p.elim
  | cons v rest =>
    right
    have hi : i < wk.its.length := by
      refine Nat.lt_of_not_le fun z => ?_
      rw [List.drop_eq_nil_of_le z] at hd
      cases hd
    have hv : wk.its[i]? = some v := by
      have := List.getElem?_drop (xs := wk.its) (i := i) (j := 0)
      rw [hd] at this
      simpa using this.symm
    have hrest : wk.its.drop (i + 1) = rest := by
      rw [← List.tail_drop, hd]
      rfl
    rw [hd] at p
    unfold lcF at p
    split at p
    · rename_i lv
      obtain ⟨hgo, hy⟩ := (ik H J r S i l w lv).2 v hv
      refine ⟨hgo, Wm (i + 1) (wk.its.length - (i + 1)), fun H' q => ⟨_, by omega, q⟩, fun x H' yl => ?_⟩
      obtain ⟨J', w', l', kx⟩ := hy x H' yl
      split at p
      · rename_i en' hp
        have ex : EnX F J' r ws en (wipe st ws) := fun j y hj ej => by
          rw [wipe_keep hj]
          exact (e1.le (l.trans l')) j y ej
        obtain ⟨vs, ex', hlen, put⟩ := put_ok hK t w' kx ex (fun j hj => by rw [wipe_length]; exact hn j hj) hp
        have hnil : (ws.filter fun j => !(t.ixs.contains j)) = [] := by
          rw [List.filter_eq_nil_iff]
          intro j hj
          simpa using h2 j hj
        rw [hnil] at ex'
        have en2 := ex'.nil
        refine put _ _ ⟨by rw [wipe_stT h1, wipe_idem], en', S, J', r, w', ⟨by rw [show W0.st (stT t x vs (wipe st ws)) = stT t x vs (wipe st ws) from by simp [WS.st, W0]]; exact en2, trivial⟩, ?_⟩
        cases hc : fc en' S with
        | stk => rw [hc] at p; exact p.elim
        | exc c fs S3 => rw [hc] at p; exact p.elim
        | ok bv S3 =>
          rw [hc] at p
          intro H3 J3 r3 w3 l3
          cases bv with
          | false =>
            rw [if_neg (by decide)]
            obtain ⟨k1, k2, k3⟩ := aside_keep (l'.trans l3) d3 d1 d2
            refine ⟨J3, r3, S3, acc, vacc, rfl, w3, (l.trans l').trans l3, k2, k3, k1, (ta.le l').le l3, ?_⟩
            rw [hrest]
            exact p
          | true =>
            rw [if_pos rfl]
            refine ⟨en', S3, J3, r3, w3, ⟨by rw [show W0.st (stT t x vs (wipe st ws)) = stT t x vs (wipe st ws) from by simp [WS.st, W0]]; exact en2.le l3, trivial⟩, ?_⟩
            simp only [Res.noX, Res.bind_ok, if_true] at p
            cases he : fe en' S3 with
            | stk => rw [he] at p; exact p.elim
            | exc c fs S3 => rw [he] at p; exact p.elim
            | ok y S4 =>
              rw [he] at p
              intro H4 J4 r4 vy w4 l4 ky
              simp only [Res.bind_ok] at p
              obtain ⟨k1, k2, k3⟩ := aside_keep ((l'.trans l3).trans l4) d3 d1 d2
              split at p
              · rename_i hz
                have tr := ((ta.le l').le l3).le l4
                refine ⟨vacc, k1, by rw [tr.length]; exact hz, ?_⟩
                obtain ⟨w5, l5⟩ := w4.upA (((l.trans l').trans l3).trans l4) (.lst (vacc ++ [vy])) hD k2 k3
                refine ⟨J4, r4, S4, acc ++ [y], vacc ++ [vy], rfl, w5, l5, k2, k3, upd_same, tr.app (.cons ky .nil), ?_⟩
                rw [hrest]
                exact p
              · exact p.elim
      · exact p.elim
    · exact p.elim
theorem blkC_ws {own : List (Str × Nat)} {t : Tg} (h : (((own.map (·.2)).all fun i => t.ixs.contains i) && (t.ixs.all fun i => (own.map (·.2)).contains i)) = true) : (∀ i ∈ t.ixs, i ∈ own.map (·.2)) ∧ ∀ i ∈ own.map (·.2), i ∈ t.ixs := by
  obtain ⟨h1, h2⟩ := Bool.and_eq_true_iff.mp h
  exact ⟨fun i hi => by simpa using List.all_eq_true.mp h2 i hi, fun i hi => by simpa using List.all_eq_true.mp h1 i hi⟩
theorem TE_len {X : Cx} {e : Expr} {t u : TE} (h : ∀ st H Q, st.length = X.N.length → u st H Q → t st H Q) (p : PE X e t) : PE X e u := ⟨fun pins s st H Q I q => p.run pins s st H Q I (h st H Q I.len q)⟩
theorem sd_lc (o : XOk F T k O np G X W) (bb : Bool) (t : Tg) {elt iter : Expr} {ifs : List Expr} {scope : Scope} {own : List (Str × Nat)} {fi : Enm → Store → Res Wk} {fc : Enm → Store → Res Bool} {fe : Enm → Store → Res Val}
    (hcm : G.calm = true) (hb : blkC G.N G.sc scope own = true) (hw : (((own.map (·.2)).all fun i => t.ixs.contains i) && (t.ixs.all fun i => (own.map (·.2)).contains i)) = true) (hx : okX iter = true) (htg : okTg (G.blk scope) t tg = true)
    (hi : PI X tg iter (TW F W fi)) (hc : ∀ X', XOk F T k O np (G.blk scope) X' W0 → PTs X' ifs (TB F W0 fc)) (he : ∀ X', XOk F T k O np (G.blk scope) X' W0 → PE X' elt (TT F W0 fe)) :
    PE X (.ListComp elt [⟨tg, iter, ifs, 0⟩] scope pos) (TT F W fun en S => (fi en S).bind fun wk S1 => (lcF wk.cs wk.xs t fc fe en wk.its [] S1).bind fun ys S2 => mkL bb ys S2) := by
  obtain ⟨h1, h2⟩ := blkC_ws hw
  have ok : BlkOk X.N X.env.scope scope own := by rw [o.hN, o.sc]; exact blkOk_by hb
  have tgo := fun s H C cl fp => okTg_ok (o.blk s H scope C cl fp) hcm htg
  refine TE_len (fun st H Q hl q => tlc_ok o.sx.hK (o.sd hcm) bb t h1 h2 (fun i hi => by rw [hl, o.hN]; exact (tgo X.s_0 (fun _ => none) 0 [] []).2 i hi) q)
    (pe_lc (o.calm hcm) o.nd' hi ok (fun s H C cl fp => (tgo s H C cl fp).1) (fun s H C cl fp => hc _ (o.blk s H scope C cl fp)) (fun s H C cl fp => he _ (o.blk s H scope C cl fp)) (okX_fold hx _))
end
end GW
/-! Core 13: calls of the text's own functions. -/
namespace GW
open PySem L2
section
variable {F : Fx} {X : Cx} {W : WS} {pins : List (Addr × Obj)} {s : Shared} {st : L2.St} {H J H1 J1 H0 J0 : Hp} {r r1 r0 : List Addr} {S S0 : Store} {en : Enm}
variable {a b c e tg : Expr} {es : List Expr} {pos : Pos}
variable {T : Tab} {k : Nat} {O : Om} {np : Nat → Nat} {G : Ck}
theorem Reps.append : ∀ {xs ys : List Val} {vs us : List V}, Reps F J r xs vs → Reps F J r ys us → Reps F J r (xs ++ ys) (vs ++ us)
  | [], _, [], _, .nil, h => h
  | _ :: _, _, _ :: _, _, .cons a b, h => .cons a (Reps.append b h)
theorem run_gD {f : Nat} {x : Str} {Q : VK} {us : List Value} {vs : List V} {xs : List Val} {df : List He.Dv} (m : Nat) (hm : m ≤ df.length) (h : Held1 F X.prog X.w X.K X.mg X.base k O.call np df f x) (ln : ∀ f xs S, xs.length ≠ np f → O.call f xs S = .stk) (hr : Room k X.A) (gd : X.A.guards = some []) (tk : Takes X W.w)
    (I : Inv X pins st H s) (rv : Vals vs us) (w : Wo F H J r S) (t : Reps F J r xs vs) (p : PoE F W st H J r (O.call f (xs ++ (df.drop (df.length - m)).map cDv) S) Q) : wpAny (model X.prog X.w) X.A (PySem.call (.ref (F.fa f)) us) (EP X pins st Q) X.xe s := by
  obtain ⟨fd, ps, Fn, hB, hn⟩ := h.fn
  obtain ⟨dV, rd, hb⟩ := hB m hm
  have td : Reps F J r ((df.drop (df.length - m)).map cDv) ((df.drop (df.length - m)).map (He.Dv.v X.K)) := dv_rep X.K fun d hd => h.ok d (List.mem_of_mem_drop hd)
  have hx : (xs ++ (df.drop (df.length - m)).map cDv).length = np f := Classical.byContradiction fun z => by
    rw [ln f _ S z] at p; exact p.elim
  have t2 := t.append td
  have rv2 := rv.append rd
  have hv : (vs ++ (df.drop (df.length - m)).map (He.Dv.v X.K)).length = np f := by rw [t2.length, hx]
  have hu : (us ++ dV).length = ps.length := by rw [← rv2.length, hv, hn]
  have bd : BindsTo s fd ⟨us, []⟩ (ps.zip (us ++ dV)) := hb s us I.kIn hu
  have sp : SpF F (np f) (O.call f) (vs ++ (df.drop (df.length - m)).map (He.Dv.v X.K)) H Q (WE W.w st) := ⟨J, r, S, _, w, t2, hv, p.toF⟩
  refine wpAny_call (codeAny_mono (Fn.run X.A X.stack s H ⟨us, []⟩ (us ++ dV) _ Q (WE W.w st) hr gd I.env0 bd rv2 sp) fun q s' hq => ?_)
  match q, hq with
  | .error e, hq => exact passAt tk st pins H s e s' I hq
  | .ok (.ret u), hq => exact I.after hq
theorem run_g {f : Nat} {x : Str} {Q : VK} {us : List Value} {vs : List V} {xs : List Val} {df : List He.Dv} (h : Held1 F X.prog X.w X.K X.mg X.base k O.call np df f x) (ln : ∀ f xs S, xs.length ≠ np f → O.call f xs S = .stk) (hr : Room k X.A) (gd : X.A.guards = some []) (tk : Takes X W.w)
    (I : Inv X pins st H s) (rv : Vals vs us) (w : Wo F H J r S) (t : Reps F J r xs vs) (p : PoE F W st H J r (O.call f xs S) Q) : wpAny (model X.prog X.w) X.A (PySem.call (.ref (F.fa f)) us) (EP X pins st Q) X.xe s :=
  run_gD 0 (Nat.zero_le _) h ln hr gd tk I rv w t (by rw [Nat.sub_zero, List.drop_length, List.map_nil, List.append_nil]; exact p)
theorem sd_callD (o : XOk F T k O np G X W) (hcm : G.calm = true) {f m : Nat} {x : Str} {p : Pos} (hf : T.fn[f]? = some x) (hm : m ≤ (T.df.getD f []).length) (hg : G.glo x = true) (hd : (x == ("__debug__" : Str)) = false) (hxs : okXs (e :: es) = true) {fs : Enm → Store → Res (List Val)} (ha : PA X (e :: es) (TAA F W fs)) :
    PE X (.Call (.Name x p) (e :: es) [] pos) (TT F W fun en S => (fs en S).bind fun xs S1 => O.call f (xs ++ ((T.df.getD f []).drop ((T.df.getD f []).length - m)).map cDv) S1) := by
  have h := o.fns f x hf
  obtain ⟨h1, h2⟩ := Bool.and_eq_true_iff.mp hxs
  refine ⟨fun pins s st H Q I q => wpAny_Call_Name_kw (ld_glob I (o.glo hg) h.hm ?_ hd)⟩
  refine PySem.W.callWith_K (h₀ := X.base) I.ok.mod.kin h.kp (thn (ha.run pos pins s st H _ I (TT.ofA (g := fun _ xs S1 => O.call f (xs ++ ((T.df.getD f []).drop ((T.df.getD f []).length - m)).map cDv) S1) q)) fun us s1 ⟨vs, H1, I1, rv, en, J1, r1, S1, xs, e1, w, t, p⟩ => ⟨I1.kIn, ?_⟩) (okX_star h1 _ _) (okXs_any _ _ h2)
  exact run_gD m hm h o.ln (o.rm hcm) o.sx.gd o.tk I1 rv w t p
theorem sd_call0 (o : XOk F T k O np G X W) (hcm : G.calm = true) {f : Nat} {x : Str} {p : Pos} (hf : T.fn[f]? = some x) (hg : G.glo x = true) (hd : (x == ("__debug__" : Str)) = false) :
    PE X (.Call (.Name x p) [] [] pos) (TT F W fun en S => (Res.ok [] S).bind fun xs S1 => O.call f xs S1) := by
  have h := o.fns f x hf
  exact ⟨fun pins s st H Q I ⟨en, S, J, r, w, e, q⟩ => wpAny_Call_Name_kw (ld_glob I (o.glo hg) h.hm (PySem.W.callWith_K0 I.kIn h.kp (run_g h o.ln (o.rm hcm) o.sx.gd o.tk I .nil w .nil q)) hd)⟩
theorem sd_call (o : XOk F T k O np G X W) (hcm : G.calm = true) {f : Nat} {x : Str} {p : Pos} (hf : T.fn[f]? = some x) (hg : G.glo x = true) (hd : (x == ("__debug__" : Str)) = false) (hxs : okXs (e :: es) = true) {fs : Enm → Store → Res (List Val)} (ha : PA X (e :: es) (TAA F W fs)) :
    PE X (.Call (.Name x p) (e :: es) [] pos) (TT F W fun en S => (fs en S).bind fun xs S1 => O.call f xs S1) := by
  have h := o.fns f x hf
  obtain ⟨h1, h2⟩ := Bool.and_eq_true_iff.mp hxs
  refine ⟨fun pins s st H Q I q => wpAny_Call_Name_kw (ld_glob I (o.glo hg) h.hm ?_ hd)⟩
  refine PySem.W.callWith_K (h₀ := X.base) I.ok.mod.kin h.kp (thn (ha.run pos pins s st H _ I (TT.ofA (g := fun _ xs S1 => O.call f xs S1) q)) fun us s1 ⟨vs, H1, I1, rv, en, J1, r1, S1, xs, e1, w, t, p⟩ => ⟨I1.kIn, ?_⟩) (okX_star h1 _ _) (okXs_any _ _ h2)
  exact run_g h o.ln (o.rm hcm) o.sx.gd o.tk I1 rv w t p
theorem sd_callv (o : XOk F T k O np G X W) (hcm : G.calm = true) {i : Nat} {x : Str} {p : Pos} (hv : G.vis i x = true) (hxs : okXs (e :: es) = true) {fs : Enm → Store → Res (List Val)} (ha : PA X (e :: es) (TAA F W fs)) :
    PE X (.Call (.Name x p) (e :: es) [] pos) (TT F W fun en S => match en[i]? with
      | some (some (.fn f)) => if f < T.fn.length then (fs en S).bind fun xs S1 => O.call f xs S1 else .stk
      | _ => .stk) := by
  obtain ⟨h1, h2⟩ := Bool.and_eq_true_iff.mp hxs
  obtain ⟨v1, v2, v3, v4⟩ := o.vis hv
  refine ⟨fun pins s st H Q I ⟨en, S, J, r, w, e, q⟩ => ?_⟩
  dsimp only at q
  split at q
  · rename_i f hen
    obtain ⟨vx, g1, g2⟩ := e.en i _ hen
    have hl : i < st.length := by rw [I.len]; exact (List.getElem?_eq_some_iff.mp v1).1
    rw [WS.st, List.getElem?_append_left hl] at g1
    cases g2
    split at q
    · rename_i hlt
      obtain ⟨y, hT⟩ : ∃ y, T.fn[f]? = some y := ⟨_, List.getElem?_eq_getElem hlt⟩
      have h := o.fns f y hT
      refine wpAny_Call_Name_kw (thn ((pe_var (pos := p) v1 v2 v3 v4).run pins s st H (fun v H1 => v = .ref (F.fa f) ∧ H1 = H) I ⟨_, g1, rfl, rfl⟩) fun u s1 ⟨v, H1, I1, ru, e1, e2⟩ => ?_)
      subst e1
      subst e2
      cases ru
      refine PySem.W.callWith_K (h₀ := X.base) I1.ok.mod.kin h.kp (thn (ha.run pos pins s1 st _ _ I1 (TT.ofA (g := fun _ xs S1 => O.call f xs S1) ⟨en, S, J, r, w, e, q⟩)) fun us s2 ⟨vs, H2, I2, rv, en2, J2, r2, S2, xs, e2, w2, t, p⟩ => ⟨I2.kIn, ?_⟩) (okX_star h1 _ _) (okXs_any _ _ h2)
      exact run_g h o.ln (o.rm hcm) o.sx.gd o.tk I2 rv w2 t p
    · exact q.elim
  · exact q.elim
end
end GW
/-! Core 14: which core text a row's expression is. -/
namespace GW
open PySem L2
def okT (x : Expr) : Bool := match x with
  | .IfExp .. => false
  | _ => true
def tyNm : List String := ["int", "bool", "str", "list", "tuple", "dict"]
theorem boot_ty {n : String} (h : n ∈ tyNm) : bootBuiltins (Str.ofString n) = some (.type n) ∧ Str.ofString n ≠ "__name__" ∧ (Str.ofString n == ("__debug__" : Str)) = false := by
  unfold tyNm at h
  simp only [List.mem_cons, List.not_mem_nil, or_false] at h
  rcases h with rfl | rfl | rfl | rfl | rfl | rfl <;> exact ⟨rfl, by decide, by decide⟩
section
variable {F : Fx} {X : Cx} {W : WS} {pins : List (Addr × Obj)} {s : Shared} {st : L2.St} {H J H1 J1 H0 J0 : Hp} {r r1 r0 : List Addr} {S S0 : Store} {en : Enm}
variable {a b c e tg : Expr} {es : List Expr} {pos : Pos}
variable {T : Tab} {k : Nat} {np : Nat → Nat} {G : Ck} {O : Om}
theorem pe_b1 {op : BoolOp} {t : TE} (h : PE X a t) : PE X (.BoolOp op [a] pos) t := ⟨fun pins s st H Q I q => h.run pins s st H Q I q⟩
theorem tst_chn (sx : Sx F X) (o p : Cop) {fa fb fc : Enm → Store → Res Val} (ha : PE X a (TT F W fa)) (hb : PE X b (TT F W fb)) (hc : PE X c (TT F W fc)) (hx : okX c = true) :
    PT X (.Compare a [o.op, p.op] [b, c] pos) (TB F W fun en S => ((fa en S).bind fun x S1 => (fb en S1).bind fun y S2 => match cmpE o x y S2 with
      | some true => (fc en S2).bind fun z S3 => optB S3 (cmpE p y z S3)
      | some false => .ok (.bl false) S2
      | none => .stk).bind truR) := by
  have hu : X.A.units + 64 < cLine := by have := sx.un; omega
  have e : TB F W (fun en S => ((fa en S).bind fun x S1 => (fb en S1).bind fun y S2 => match cmpE o x y S2 with
      | some true => (fc en S2).bind fun z S3 => optB S3 (cmpE p y z S3)
      | some false => .ok (.bl false) S2
      | none => .stk).bind truR) = TB F W (fun en S => (fa en S).bind fun x S1 => (fb en S1).bind fun y S2 => match cmpE o x y S2 with
      | some true => (fc en S2).bind fun z S3 => optT S3 (cmpE p y z S3)
      | some false => .ok false S2
      | none => .stk) := TB.cong fun en S => by
    rw [Res.bind_assoc]
    cases fa en S with
    | stk => rfl
    | exc c fs S1 => rfl
    | ok x S1 =>
      simp only [Res.bind_ok]
      rw [Res.bind_assoc]
      cases fb en S1 with
      | stk => rfl
      | exc c fs S1 => rfl
      | ok y S2 =>
        simp only [Res.bind_ok]
        cases cmpE o x y S2 with
        | none => rfl
        | some b =>
          cases b with
          | false => rfl
          | true =>
            simp only
            rw [Res.bind_assoc]
            cases fc en S2 with
            | stk => rfl
            | exc c fs S1 => rfl
            | ok z S3 =>
              simp only [Res.bind_ok]
              cases cmpE p y z S3 <;> rfl
  rw [e]
  refine ⟨fun pins s st H Q I q => PyProof.Rows.isTrue_chain (thn (ha.run pins s st H _ I (TB.ofE (g := fun en x S1 => (fb en S1).bind fun y S2 => match cmpE o x y S2 with
      | some true => (fc en S2).bind fun z S3 => optT S3 (cmpE p y z S3)
      | some false => .ok false S2
      | none => .stk) q)) fun v s1 ⟨vx, H1, I1, r1, en, J1, ro1, S1, x, e1, w1, k1, p1⟩ => PyProof.Rows.test_link ?_) (okX_mark hx p.op)⟩
  have b1 : TT F W fb st H1 fun vy H2 => ∃ J2 r2 S2 y, Wo F H2 J2 r2 S2 ∧ Le H1 J1 ro1 H2 J2 r2 ∧ Rep F J2 r2 y vy ∧ PoB F W st H2 J2 r2 (match cmpE o x y S2 with
      | some true => (fc en S2).bind fun z S3 => optT S3 (cmpE p y z S3)
      | some false => .ok false S2
      | none => .stk) Q := by
    refine ⟨en, S1, J1, ro1, w1, e1, ?_⟩
    cases h : fb en S1 with
    | stk => rw [h] at p1; exact p1
    | exc c fs S1 => rw [h] at p1; exact p1
    | ok y S2 =>
      rw [h] at p1
      exact fun H' J' r' u a1 a2 a3 => ⟨J', r', S2, y, a1, a2, a3, PoB.le a2 p1⟩
  refine thn (hb.run pins s1 st H1 _ I1 b1) fun u s2 ⟨vy, H2, I2, r2, J2, ro2, S2, y, w2, l2, k2, p2⟩ => ?_
  obtain ⟨k, hk⟩ : ∃ k, cmpE o x y S2 = some k := by
    cases h : cmpE o x y S2 with
    | none => rw [h] at p2; exact p2.elim
    | some k => exact ⟨k, rfl⟩
  refine thn (cmp_ok (W := W) sx.hK hu o I2 w2 (k1.le l2) k2 r1 r2 (Q := fun z H3 => z = .bl k ∧ ∃ J3 r3, Wo F H3 J3 r3 S2 ∧ Le H2 J2 ro2 H3 J3 r3) (by
    rw [hk]
    exact fun H' J' r' w' a1 a2 a3 => by cases a3; exact ⟨rfl, J', r', a1, a2⟩)) fun d s3 ⟨z, H3, I3, r3, e3, J3, ro3, w3, l3⟩ => ?_
  subst e3
  cases r3
  rw [hk] at p2
  refine wpAny_truthy_bool ?_
  cases k with
  | false => exact PyProof.Rows.ite_ff ⟨H3, I3, p2 H3 J3 ro3 w3 l3⟩
  | true =>
    have c1 : TT F W fc st H3 fun vz H4 => ∃ J4 r4 S4 z, Wo F H4 J4 r4 S4 ∧ Le H3 J3 ro3 H4 J4 r4 ∧ Rep F J4 r4 z vz ∧ PoB F W st H4 J4 r4 (optT S4 (cmpE p y z S4)) Q := by
      refine ⟨en, S2, J3, ro3, w3, (e1.le l2).le l3, ?_⟩
      cases h : fc en S2 with
      | stk => rw [h] at p2; exact p2
      | exc c fs S1 =>
        rw [h] at p2
        exact fun H' J' r' d ws a1 a2 a3 a4 => p2 H' J' r' d ws a1 (l3.trans a2) a3 a4
      | ok y S2 =>
        rw [h] at p2
        exact fun H' J' r' u a1 a2 a3 => ⟨J', r', _, y, a1, a2, a3, PoB.le (l3.trans a2) p2⟩
    refine PyProof.Rows.ite_tt (PyProof.Rows.test_last (thn (hc.run pins s3 st H3 _ I3 c1) fun w' s4 ⟨vz, H4, I4, r4, J4, ro4, S4, z, w4, l4, k4, p4⟩ => ?_))
    obtain ⟨k', hk'⟩ : ∃ k', cmpE p y z S4 = some k' := by
      cases h : cmpE p y z S4 with
      | none => rw [h] at p4; exact p4.elim
      | some k => exact ⟨k, rfl⟩
    rw [hk'] at p4
    refine thn (cmp_ok (W := W) sx.hK hu p I4 w4 ((k2.le l3).le l4) k4 r2 r4 (Q := fun z H5 => z = .bl k' ∧ Q k' H5) (by
      rw [hk']
      exact fun H' J' r' w' a1 a2 a3 => by cases a3; exact ⟨rfl, p4 H' J' r' a1 a2⟩)) fun d s5 ⟨z, H5, I5, r5, e5, q5⟩ => ?_
    subst e5
    cases r5
    exact wpAny_truthy_bool ⟨H5, I5, q5⟩
/-! ### the check -/
def ownOf (N : List Str) (scope : Scope) : List (Str × Nat) := scope.names.filterMap fun y => match y.2 with
  | .local => (N.findIdx? (· == y.1)).map fun i => (y.1, i)
  | .cell => (N.findIdx? (· == y.1)).map fun i => (y.1, i)
  | _ => none
def ckCst (v : Val) (x : Expr) : Bool := match v, x with
  | .int i, .Constant (.int j) _ _ => decide (i = j)
  | .bl i, .Constant (.bool j) _ _ => decide (i = j)
  | .str i, .Constant (.str j) _ _ => decide (i = j)
  | .non, .Constant .none _ _ => true
  | _, _ => false
def Tab.free (T : Tab) (G : Ck) (x : Str) : Bool := G.glo x && decide (x ∈ T.bl)
def ckTy (T : Tab) (G : Ck) (n : String) (x : Str) : Bool := decide (n ∈ tyNm) && decide (x = Str.ofString n) && T.free G x
def okWs (t : Tg) (own : List (Str × Nat)) : Bool := ((own.map (·.2)).all fun i => t.ixs.contains i) && (t.ixs.all fun i => (own.map (·.2)).contains i)
def clsB (T : Tab) (G : Ck) : List Nat → List Expr → Bool
  | [], [] => true
  | k :: ks, e :: es => (match e with
    | .Name n _ => decide (T.cl[k]? = some n) && G.glo n && !(n == ("__debug__" : Str))
    | _ => false) && clsB T G ks es
  | _, _ => false
def dfB1 (d : Val) (e : He.Dv) : Bool := match d, e with
  | .non, .non => true
  | .bl a, .bl b => decide (a = b)
  | .int a, .int b => decide (a = b)
  | .str a, .str b => decide (a = b)
  | _, _ => false
def dfB : List Val → List He.Dv → Bool
  | [], [] => true
  | d :: ds, e :: es => dfB1 d e && dfB ds es
  | _, _ => false
theorem dfB_eq : ∀ {ds : List Val} {es : List He.Dv}, dfB ds es = true → ds = es.map cDv
  | [], [], _ => rfl
  | [], _ :: _, h => by cases h
  | _ :: _, [], h => by cases h
  | d :: ds, e :: es, h => by
    obtain ⟨h1, h2⟩ := Bool.and_eq_true_iff.mp (show (dfB1 d e && dfB ds es) = true from h)
    rw [List.map_cons, ← dfB_eq h2]
    congr 1
    unfold dfB1 at h1
    split at h1 <;> first | rfl | (cases of_decide_eq_true h1; rfl) | cases h1
mutual
def ckE (T : Tab) : Ck → E → Expr → Bool
  | G, .cst v, x => ckCst v x
  | G, .var i, x => (match x with
    | .Name n _ => G.vis i n
    | _ => false)
  | G, .glo n v, x => (match x, v with
    | .Name m _, .fn f => decide (m = n) && decide (T.fn[f]? = some n) && G.glo n && !(n == ("__debug__" : Str))
    | .Name m _, .int i => decide (m = n) && (match T.cs.lookup n with | some (.int j) => decide (j = i) | _ => false) && G.glo n && !(n == ("__debug__" : Str))
    | .Name m _, .str i => decide (m = n) && (match T.cs.lookup n with | some (.str j) => decide (j = i) | _ => false) && G.glo n && !(n == ("__debug__" : Str))
    | _, _ => false)
  | G, .bin o a b, x => (match x with
    | .BinOp l op r _ => decide (op = o.op) && ckE T G a l && ckE T G b r
    | _ => false)
  | G, .neg a, x => (match x with
    | .UnaryOp .USub l _ => ckE T G a l
    | _ => false)
  | G, .not a, x => (match x with
    | .UnaryOp .Not l _ => ckE T G a l && okT l
    | _ => false)
  | G, .and a b, x => (match x with
    | .BoolOp .And [l, r] _ => ckE T G a l && ckE T G b r && okT l && okT r
    | .BoolOp .And (l :: r :: q :: rest) p => ckE T G a l && ckE T G b (.BoolOp .And (r :: q :: rest) p) && okT l
    | _ => false)
  | G, .or a b, x => (match x with
    | .BoolOp .Or [l, r] _ => ckE T G a l && ckE T G b r && okT l && okT r
    | .BoolOp .Or (l :: r :: q :: rest) p => ckE T G a l && ckE T G b (.BoolOp .Or (r :: q :: rest) p) && okT l
    | _ => false)
  | G, .cmp o a b, x => (match x with
    | .Compare l [op] [r] _ => decide (op = o.op) && ckE T G a l && ckE T G b r && okX r
    | _ => false)
  | G, .chn o p a b c, x => (match x with
    | .Compare l [op, op'] [r, q] _ => decide (op = o.op) && decide (op' = p.op) && ckE T G a l && ckE T G b r && ckE T G c q && okX q
    | _ => false)
  | G, .ife c a b, x => (match x with
    | .IfExp t l r _ => ckE T G c t && ckE T G a l && ckE T G b r && okT t
    | _ => false)
  | G, .isi a ts, x => (match x, ts with
    | .Call (.Name m _) [l, .Name y _] [] _, [n] => decide (m = "isinstance") && T.free G m && ckE T G a l && okX l && ckTy T G n y
    | .Call (.Name m _) [l, .Tuple [.Name y _, .Name y' _] _ _] [] _, [n, n'] => decide (m = "isinstance") && T.free G m && ckE T G a l && okX l && ckTy T G n y && ckTy T G n' y'
    | _, _ => false)
  | G, .idx a i, x => (match x with
    | .Subscript l r _ => ckE T G a l && ckE T G i r && okX r
    | _ => false)
  | G, .slc a lo hi, x => (match x with
    | .Subscript l (.Slice p q none _) _ => ckE T G a l && ckP T G lo p && ckP T G hi q
    | _ => false)
  | G, .slcR a lo hi, x => (match x with
    | .Subscript l (.Slice p q none _) _ => ckE T G a l && ckP T G lo p && ckP T G hi q
    | _ => false)
  | G, .tpd es, x => (match x with
    | .Tuple xs _ _ => ckS T G es xs
    | _ => false)
  | G, .lsd b es, x => (match x with
    | .List xs _ => ckS T G es xs
    | _ => false)
  | G, .dcd ks vs, x => (match x, ks, vs with
    | .Dict [] [] _, .nil, .nil => true
    | .Dict [some p] [q] _, .cons kk .nil, .cons vv .nil => ckE T G kk p && ckE T G vv q
    | _, _, _ => false)
  | G, .blt f es, x => (match x with
    | .Call (.Name m _) (y :: ys) [] _ => decide (m = f.nm) && T.free G m && okXs (y :: ys) && ckS T G es (y :: ys) && (G.calm || !f.stir)
    | _ => false)
  | G, .call f es, x => (match x with
    | .Call (.Name m _) [] [] _ => decide (T.fn[f]? = some m) && G.glo m && !(m == ("__debug__" : Str)) && ckS T G es [] && G.calm
    | .Call (.Name m _) (y :: ys) [] _ => decide (T.fn[f]? = some m) && G.glo m && !(m == ("__debug__" : Str)) && okXs (y :: ys) && ckS T G es (y :: ys) && G.calm
    | _ => false)
  | G, .callv i es, x => (match x with
    | .Call (.Name m _) (y :: ys) [] _ => G.vis i m && okXs (y :: ys) && ckS T G es (y :: ys) && G.calm
    | _ => false)
  | G, .mth m o es, x => (match x with
    | .Call (.Attribute l n ap) [] [] p => decide (n = m.nm) && okA l && (ap.endLine == p.line) && ckE T G o l && ckS T G es []
    | .Call (.Attribute l n ap) (y :: ys) [] p => decide (n = m.nm) && okA l && (ap.endLine == p.line) && ckE T G o l && okXs (y :: ys) && decide ((y :: ys).length < 30) && ckS T G es (y :: ys)
    | _ => false)
  | G, .lc b t it cs e, x => (match x with
    | .ListComp elt [⟨tg, iter, ifs, 0⟩] scope _ => G.calm && blkC G.N G.sc scope (ownOf G.N scope) && okWs t (ownOf G.N scope) && okX iter && okTg (G.blk scope) t tg && ckI T G it tg iter && ckC T (G.blk scope) cs ifs && ckE T (G.blk scope) e elt
    | _ => false)
  | G, .efl p c j, x => (match x with
    | .Attribute (.Name y _) f _ => decide (p = G.N.length) && (match G.ex with
      | some (i, c') => decide (c' = c) && G.vis i y && decide ((T.cf.getD c [])[j]? = some f) && decide ((T.cf.getD c []).Nodup)
      | none => false)
    | _ => false)
  | G, .callD f es ds, x => (match x with
    | .Call (.Name m _) (y :: ys) [] _ => decide (T.fn[f]? = some m) && G.glo m && !(m == ("__debug__" : Str)) && okXs (y :: ys) && ckS T G es (y :: ys) && G.calm && decide (ds.length ≤ (T.df.getD f []).length) && dfB ds ((T.df.getD f []).drop ((T.df.getD f []).length - ds.length))
    | _ => false)
  | G, .eisi p c ks b, x => (match x with
    | .Call (.Name m _) [.Name y _, .Name n q] [] _ => !b && decide (m = "isinstance") && T.free G m && decide (p = G.N.length) && clsB T G ks [.Name n q] && (match G.ex with
      | some (i, c') => decide (c' = c) && G.vis i y
      | none => false)
    | .Call (.Name m _) [.Name y _, .Tuple es _ _] [] _ => b && decide (m = "isinstance") && T.free G m && decide (p = G.N.length) && clsB T G ks es && decide (es.length ≤ 100) && (match G.ex with
      | some (i, c') => decide (c' = c) && G.vis i y
      | none => false)
    | _ => false)
def ckS (T : Tab) : Ck → Es → List Expr → Bool
  | G, .nil, xs => (match xs with
    | [] => true
    | _ => false)
  | G, .cons e es, xs => (match xs with
    | x :: xs => okX x && ckE T G e x && ckS T G es xs
    | _ => false)
def ckP (T : Tab) : Ck → Po → Option Expr → Bool
  | G, .no, x => (match x with
    | none => true
    | _ => false)
  | G, .yes e, x => (match x with
    | some y => ckE T G e y
    | _ => false)
def ckC (T : Tab) : Ck → Es → List Expr → Bool
  | G, .nil, xs => (match xs with
    | [] => true
    | _ => false)
  | G, .cons e es, xs => (match xs, es with
    | [x], .nil => ckE T G e x && okT x
    | _, _ => false)
def ckI (T : Tab) : Ck → It → Expr → Expr → Bool
  | G, .val e, tg, x => ckE T G e x
  | G, .rng1 e, tg, x => (match x with
    | .Call (.Name m _) [y] [] _ => decide (m = "range") && T.free G m && okX y && ckE T G e y
    | _ => false)
  | G, .rng2 a b, tg, x => (match x with
    | .Call (.Name m _) [y, z] [] _ => decide (m = "range") && T.free G m && okX y && okX z && ckE T G a y && ckE T G b z
    | _ => false)
  | G, .enm e, tg, x => (match x, tg with
    | .Call (.Name m _) [y] [] _, .Tuple _ _ _ => decide (m = "enumerate") && T.free G m && okX y && ckE T G e y
    | _, _ => false)
  | G, .zip a b, tg, x => (match x, tg with
    | .Call (.Name m _) [y, z] [] _, .Tuple _ _ _ => decide (m = "zip") && T.free G m && okX y && okX z && ckE T G a y && ckE T G b z
    | _, _ => false)
  | G, .rev e, tg, x => (match x with
    | .Call (.Name m _) [y] [] _ => decide (m = "reversed") && T.free G m && okX y && ckE T G e y
    | _ => false)
end
theorem XOk.free (o : XOk F T k O np G X W) {x : Str} (h : T.free G x = true) : Gl X x ∧ X.mg x = none := by
  obtain ⟨h1, h2⟩ := Bool.and_eq_true_iff.mp h
  exact ⟨o.glo h1, o.bl x (by simpa using h2)⟩
structure EOk (F : Fx) (X : Cx) (W : WS) (O : Om) (e : E) (x : Expr) : Prop where
  pe : PE X x (TT F W fun en S => evE O e en S)
  pt : okT x = true → PT X x (TB F W fun en S => (evE O e en S).bind truR)
theorem EOk.of (o : XOk F T k O np G X W) {e : E} {x : Expr} (h : okTst x = true) (p : PE X x (TT F W fun en S => evE O e en S)) : EOk F X W O e x :=
  ⟨p, fun _ => tst_val o.sx.hK p fun wh => okTst_is h _ wh⟩
end
end GW
/-! Core 15: the check is right (expressions). -/
namespace GW
open PySem L2
section
variable {F : Fx} {T : Tab} {k : Nat} {np : Nat → Nat} {O : Om}
theorem glo_ok {G : Ck} {X : Cx} {W : WS} (o : XOk F T k O np G X W) {n m : Str} {f : Nat} {pos : Pos} (h : (decide (m = n) && decide (T.fn[f]? = some n) && G.glo n && !(n == ("__debug__" : Str))) = true) : PE X (.Name m pos) (TT F W fun _ S => .ok (.fn f) S) := by
  simp only [Bool.and_eq_true, decide_eq_true_eq, Bool.not_eq_true'] at h
  obtain ⟨⟨⟨rfl, h2⟩, h3⟩, h4⟩ := h
  exact sd_glo (v := .fn f) (vx := .ref (F.fa f)) (o.glo h3) (o.fns f _ h2).hm rfl (fun _ _ => .fn f) h4
theorem glo_ok_i {G : Ck} {X : Cx} {W : WS} (o : XOk F T k O np G X W) {n m : Str} {i : Int} {pos : Pos} (h : (decide (m = n) && (match T.cs.lookup n with | some (.int j) => decide (j = i) | _ => false) && G.glo n && !(n == ("__debug__" : Str))) = true) : PE X (.Name m pos) (TT F W fun _ S => .ok (.int i) S) := by
  simp only [Bool.and_eq_true, decide_eq_true_eq, Bool.not_eq_true'] at h
  obtain ⟨⟨⟨rfl, h2⟩, h3⟩, h4⟩ := h
  split at h2
  · rename_i j e
    have h2' : j = i := of_decide_eq_true h2
    subst h2'
    obtain ⟨t, ht⟩ : ∃ t, X.mg m = some (.int j t) := o.cst _ _ e
    exact sd_glo (v := .int j) (vx := .int j) (o.glo h3) ht ⟨t, rfl⟩ (fun _ _ => .int j) h4
  · cases h2
theorem glo_ok_s {G : Ck} {X : Cx} {W : WS} (o : XOk F T k O np G X W) {n m : Str} {i : Str} {pos : Pos} (h : (decide (m = n) && (match T.cs.lookup n with | some (.str j) => decide (j = i) | _ => false) && G.glo n && !(n == ("__debug__" : Str))) = true) : PE X (.Name m pos) (TT F W fun _ S => .ok (.str i) S) := by
  simp only [Bool.and_eq_true, decide_eq_true_eq, Bool.not_eq_true'] at h
  obtain ⟨⟨⟨rfl, h2⟩, h3⟩, h4⟩ := h
  split at h2
  · rename_i j e
    have h2' : j = i := of_decide_eq_true h2
    subst h2'
    obtain ⟨t, ht⟩ : ∃ t, X.mg m = some (.str j t) := o.cst _ _ e
    exact sd_glo (v := .str j) (vx := .str j) (o.glo h3) ht ⟨t, rfl⟩ (fun _ _ => .str j) h4
  · cases h2
theorem cst_ok {X : Cx} {W : WS} {v : Val} {x : Expr} (h : ckCst v x = true) : PE X x (TT F W fun _ S => .ok v S) ∧ okTst x = true := by
  unfold ckCst at h
  split at h
  · cases of_decide_eq_true h; exact ⟨sd_int, rfl⟩
  · cases of_decide_eq_true h; exact ⟨sd_bl, rfl⟩
  · cases of_decide_eq_true h; exact ⟨sd_str, rfl⟩
  · exact ⟨sd_non, rfl⟩
  · cases h
theorem ckTy_ok {G : Ck} {X : Cx} {W : WS} (o : XOk F T k O np G X W) {n : String} {x : Str} (h : ckTy T G n x = true) :
    x = Str.ofString n ∧ Gl X x ∧ X.mg x = none ∧ bootBuiltins x = some (.type n) ∧ x ≠ "__name__" ∧ (x == ("__debug__" : Str)) = false := by
  unfold ckTy at h
  simp only [Bool.and_eq_true, decide_eq_true_eq] at h
  obtain ⟨⟨h1, h2⟩, h3⟩ := h
  obtain ⟨g1, g2⟩ := o.free h3
  obtain ⟨b1, b2, b3⟩ := boot_ty h1
  subst h2
  exact ⟨rfl, g1, g2, b1, b2, b3⟩
abbrev OkE (F : Fx) (T : Tab) (k : Nat) (np : Nat → Nat) (O : Om) (e : E) : Prop := ∀ {G : Ck} {X : Cx} {W : WS} {x : Expr}, XOk F T k O np G X W → ckE T G e x = true → EOk F X W O e x
abbrev OkS (F : Fx) (T : Tab) (k : Nat) (np : Nat → Nat) (O : Om) (es : Es) : Prop := ∀ {G : Ck} {X : Cx} {W : WS} {xs : List Expr}, XOk F T k O np G X W → ckS T G es xs = true → PA X xs (TAA F W fun en S => evs O es en S)
abbrev OkP (F : Fx) (T : Tab) (k : Nat) (np : Nat → Nat) (O : Om) (p : Po) : Prop := ∀ {G : Ck} {X : Cx} {W : WS} {x : Option Expr}, XOk F T k O np G X W → ckP T G p x = true → PO X x (TP F W fun en S => evP O p en S)
abbrev OkC (F : Fx) (T : Tab) (k : Nat) (np : Nat → Nat) (O : Om) (es : Es) : Prop := ∀ {G : Ck} {X : Cx} {W : WS} {xs : List Expr}, XOk F T k O np G X W → ckC T G es xs = true → PTs X xs (TB F W fun en S => evC O es en S)
abbrev OkI (F : Fx) (T : Tab) (k : Nat) (np : Nat → Nat) (O : Om) (i : It) : Prop := ∀ {G : Ck} {X : Cx} {W : WS} {tg x : Expr}, XOk F T k O np G X W → ckI T G i tg x = true → PI X tg x (TW F W fun en S => evI O i en S)
theorem ok_bin (o : Bop) {a b : E} (ha : OkE F T k np O a) (hb : OkE F T k np O b) : OkE F T k np O (.bin o a b) := fun {G X W x} xo h => by
  unfold ckE at h
  split at h
  · simp only [Bool.and_eq_true, decide_eq_true_eq] at h
    obtain ⟨⟨rfl, h1⟩, h2⟩ := h
    exact .of xo rfl (sd_bin xo.sx.hK o (ha xo h1).pe (hb xo h2).pe)
  · cases h
theorem ok_neg {a : E} (ha : OkE F T k np O a) : OkE F T k np O (.neg a) := fun {G X W x} xo h => by
  unfold ckE at h
  split at h
  · exact .of xo rfl (sd_neg (ha xo h).pe)
  · cases h
theorem ok_not {a : E} (ha : OkE F T k np O a) : OkE F T k np O (.not a) := fun {G X W x} xo h => by
  unfold ckE at h
  split at h
  · rename_i l p
    simp only [Bool.and_eq_true] at h
    have q := ha xo h.1
    refine ⟨sd_notT xo.sx.hK q.pe, fun _ => ?_⟩
    have z := tst_not (pos := p) (q.pt h.2)
    rw [← tb_not] at z
    exact z
  · cases h
theorem pw_of {X : Cx} {op : BoolOp} {vs : List Expr} {p : Pos} {t : L2.TT} (h : PT X (.BoolOp op vs p) t) : PW X (.BoolOp op vs p) t := ⟨fun wh pins s st H Q I q => by
  have z := h.run pins s st H Q I q
  cases op <;> cases vs <;> exact z⟩
theorem ok_and {a b : E} (ha : OkE F T k np O a) (hb : OkE F T k np O b) : OkE F T k np O (.and a b) := fun {G X W x} xo h => by
  unfold ckE at h
  split at h
  · rename_i l r p
    simp only [Bool.and_eq_true] at h
    obtain ⟨⟨⟨h1, h2⟩, h3⟩, h4⟩ := h
    have qa := ha xo h1
    have qb := hb xo h2
    refine ⟨sd_andT xo.sx.hK qa.pe (pe_b1 qb.pe), fun _ => ?_⟩
    have z := tst_and (qa.pt h3) (pw_and1 (pos := p) (qb.pt h4))
    rw [← tb_and] at z
    exact z.pt
  · simp only [Bool.and_eq_true] at h
    obtain ⟨⟨h1, h2⟩, h3⟩ := h
    have qa := ha xo h1
    have qb := hb xo h2
    refine ⟨sd_andT xo.sx.hK qa.pe qb.pe, fun _ => ?_⟩
    have z := tst_and (qa.pt h3) (pw_of (qb.pt rfl))
    rw [← tb_and] at z
    exact z.pt
  · cases h
theorem ok_or {a b : E} (ha : OkE F T k np O a) (hb : OkE F T k np O b) : OkE F T k np O (.or a b) := fun {G X W x} xo h => by
  unfold ckE at h
  split at h
  · rename_i l r p
    simp only [Bool.and_eq_true] at h
    obtain ⟨⟨⟨h1, h2⟩, h3⟩, h4⟩ := h
    have qa := ha xo h1
    have qb := hb xo h2
    refine ⟨sd_orT xo.sx.hK qa.pe (pe_b1 qb.pe), fun _ => ?_⟩
    have z := tst_or (qa.pt h3) (pw_or1 (pos := p) (qb.pt h4))
    rw [← tb_or] at z
    exact z.pt
  · simp only [Bool.and_eq_true] at h
    obtain ⟨⟨h1, h2⟩, h3⟩ := h
    have qa := ha xo h1
    have qb := hb xo h2
    refine ⟨sd_orT xo.sx.hK qa.pe qb.pe, fun _ => ?_⟩
    have z := tst_or (qa.pt h3) (pw_of (qb.pt rfl))
    rw [← tb_or] at z
    exact z.pt
  · cases h
theorem Sx.u64 {X : Cx} (sx : Sx F X) : X.A.units + 64 < cLine := by have := sx.un; omega
theorem ok_cmp (o : Cop) {a b : E} (ha : OkE F T k np O a) (hb : OkE F T k np O b) : OkE F T k np O (.cmp o a b) := fun {G X W x} xo h => by
  unfold ckE at h
  split at h
  · rename_i l op r p
    simp only [Bool.and_eq_true, decide_eq_true_eq] at h
    obtain ⟨⟨⟨rfl, h1⟩, h2⟩, h3⟩ := h
    refine ⟨sd_cmp xo.sx.hK xo.sx.u64 o (ha xo h1).pe (hb xo h2).pe (okX_mark h3 _), fun _ => ?_⟩
    have z := tst_cmp (pos := p) xo.sx.hK xo.sx.u64 o (ha xo h1).pe (hb xo h2).pe (okX_mark h3 _)
    rw [← tb_cmp] at z
    exact z
  · cases h
theorem ok_chn (o p : Cop) {a b c : E} (ha : OkE F T k np O a) (hb : OkE F T k np O b) (hc : OkE F T k np O c) : OkE F T k np O (.chn o p a b c) := fun {G X W x} xo h => by
  unfold ckE at h
  split at h
  · simp only [Bool.and_eq_true, decide_eq_true_eq] at h
    obtain ⟨⟨⟨⟨⟨rfl, rfl⟩, h1⟩, h2⟩, h3⟩, h4⟩ := h
    exact ⟨sd_chn xo.sx o p (ha xo h1).pe (hb xo h2).pe (hc xo h3).pe h4, fun _ => tst_chn xo.sx o p (ha xo h1).pe (hb xo h2).pe (hc xo h3).pe h4⟩
  · cases h
theorem ok_ife {c a b : E} (hc : OkE F T k np O c) (ha : OkE F T k np O a) (hb : OkE F T k np O b) : OkE F T k np O (.ife c a b) := fun {G X W x} xo h => by
  unfold ckE at h
  split at h
  · simp only [Bool.and_eq_true] at h
    obtain ⟨⟨⟨h1, h2⟩, h3⟩, h4⟩ := h
    exact ⟨sd_ifeT xo.sx.hK ((hc xo h1).pt h4) (ha xo h2).pe (hb xo h3).pe, fun z => nomatch z⟩
  · cases h
theorem ok_isi {a : E} (ts : List String) (ha : OkE F T k np O a) : OkE F T k np O (.isi a ts) := fun {G X W x} xo h => by
  unfold ckE at h
  split at h
  · simp only [Bool.and_eq_true, decide_eq_true_eq] at h
    obtain ⟨⟨⟨⟨rfl, h2⟩, h3⟩, h4⟩, h5⟩ := h
    obtain ⟨g1, g2⟩ := xo.free h2
    obtain ⟨rfl, t1, t2, t3, t4, t5⟩ := ckTy_ok xo h5
    exact .of xo rfl (sd_isi1 xo.sx rfl g1 g2 t1 t2 t3 t4 t5 h4 (ha xo h3).pe)
  · simp only [Bool.and_eq_true, decide_eq_true_eq] at h
    obtain ⟨⟨⟨⟨⟨rfl, h2⟩, h3⟩, h4⟩, h5⟩, h6⟩ := h
    obtain ⟨g1, g2⟩ := xo.free h2
    obtain ⟨e1, t1, t2, t3, t4, t5⟩ := ckTy_ok xo h5
    obtain ⟨e2, u1, u2, u3, u4, u5⟩ := ckTy_ok xo h6
    exact .of xo rfl (sd_isi2 xo.sx g1 g2 t1 t2 t3 t4 t5 u1 u2 u3 u4 u5 h4 (ha xo h3).pe)
  · cases h
theorem ok_idx {a b : E} (ha : OkE F T k np O a) (hb : OkE F T k np O b) : OkE F T k np O (.idx a b) := fun {G X W x} xo h => by
  unfold ckE at h
  split at h
  · simp only [Bool.and_eq_true] at h
    obtain ⟨⟨h1, h2⟩, h3⟩ := h
    exact .of xo rfl (sd_idx xo.sx.hK (ha xo h1).pe (hb xo h2).pe h3)
  · cases h
theorem ok_slc {a : E} {lo hi : Po} (ha : OkE F T k np O a) (hl : OkP F T k np O lo) (hh : OkP F T k np O hi) : OkE F T k np O (.slc a lo hi) := fun {G X W x} xo h => by
  unfold ckE at h
  split at h
  · simp only [Bool.and_eq_true] at h
    obtain ⟨⟨h1, h2⟩, h3⟩ := h
    exact .of xo rfl (sd_slc xo.sx.hK (ha xo h1).pe (hl xo h2) (hh xo h3))
  · cases h
theorem ok_slcR {a : E} {lo hi : Po} (ha : OkE F T k np O a) (hl : OkP F T k np O lo) (hh : OkP F T k np O hi) : OkE F T k np O (.slcR a lo hi) := fun {G X W x} xo h => by
  unfold ckE at h
  split at h
  · simp only [Bool.and_eq_true] at h
    obtain ⟨⟨h1, h2⟩, h3⟩ := h
    exact .of xo rfl (sd_slcR xo.sx.hK (ha xo h1).pe (hl xo h2) (hh xo h3))
  · cases h
theorem ok_tpd {es : Es} (hs : OkS F T k np O es) : OkE F T k np O (.tpd es) := fun {G X W x} xo h => by
  unfold ckE at h
  split at h
  · exact .of xo rfl (sd_tup (hs xo h))
  · cases h
theorem ok_lsd (b : Bool) {es : Es} (hs : OkS F T k np O es) : OkE F T k np O (.lsd b es) := fun {G X W x} xo h => by
  unfold ckE at h
  split at h
  · exact .of xo rfl (sd_lst (hs xo h))
  · cases h
theorem ok_blt (f : Blt) {es : Es} (hs : OkS F T k np O es) : OkE F T k np O (.blt f es) := fun {G X W x} xo h => by
  unfold ckE at h
  split at h
  · simp only [Bool.and_eq_true, decide_eq_true_eq] at h
    obtain ⟨⟨⟨⟨rfl, h2⟩, h3⟩, h4⟩, h5⟩ := h
    obtain ⟨g1, g2⟩ := xo.free h2
    exact .of xo rfl (sd_blt xo.sx f (fun z => xo.calm (by rw [z] at h5; simpa using h5)) g1 g2 (by simpa using h3) (hs xo h4))
  · cases h
theorem evs_nil {es : Es} {G : Ck} (h : ckS T G es [] = true) : es = .nil := by
  cases es with
  | nil => rfl
  | cons e es => unfold ckS at h; cases h
theorem ok_call (f : Nat) {es : Es} (hs : OkS F T k np O es) : OkE F T k np O (.call f es) := fun {G X W x} xo h => by
  unfold ckE at h
  split at h
  · simp only [Bool.and_eq_true, decide_eq_true_eq, Bool.not_eq_true'] at h
    obtain ⟨⟨⟨⟨h1, h2⟩, h3⟩, h4⟩, h5⟩ := h
    cases evs_nil h4
    exact .of xo rfl (sd_call0 xo h5 h1 h2 h3)
  · simp only [Bool.and_eq_true, decide_eq_true_eq, Bool.not_eq_true'] at h
    obtain ⟨⟨⟨⟨⟨h1, h2⟩, h3⟩, h4⟩, h5⟩, h6⟩ := h
    exact .of xo rfl (sd_call xo h6 h1 h2 h3 (by simpa using h4) (hs xo h5))
  · cases h
theorem ok_callv (hO : O.nf = T.fn.length) (i : Nat) {es : Es} (hs : OkS F T k np O es) : OkE F T k np O (.callv i es) := fun {G X W x} xo h => by
  unfold ckE at h
  split at h
  · rename_i m p1 y ys p2
    simp only [Bool.and_eq_true] at h
    obtain ⟨⟨⟨h1, h2⟩, h3⟩, h4⟩ := h
    have z := sd_callv (pos := p2) (p := p1) xo h4 h1 (by simpa using h2) (hs xo h3)
    rw [← hO] at z
    exact .of xo rfl z
  · cases h
theorem ok_mth (m : Mth) {a : E} {es : Es} (ha : OkE F T k np O a) (hs : OkS F T k np O es) : OkE F T k np O (.mth m a es) := fun {G X W x} xo h => by
  unfold ckE at h
  split at h
  · simp only [Bool.and_eq_true, decide_eq_true_eq] at h
    obtain ⟨⟨⟨⟨rfl, h1⟩, h2⟩, h3⟩, h4⟩ := h
    cases evs_nil h4
    exact .of xo rfl (sd_mth0 m h1 h2 (ha xo h3).pe)
  · simp only [Bool.and_eq_true, decide_eq_true_eq] at h
    obtain ⟨⟨⟨⟨⟨⟨rfl, h1⟩, h2⟩, h3⟩, h4⟩, h5⟩, h6⟩ := h
    exact .of xo rfl (sd_mth m h1 h2 (by simpa using h4) h5 (ha xo h3).pe (hs xo h6))
  · cases h
theorem ok_lc (b : Bool) (t : Tg) {it : It} {cs : Es} {e : E} (hi : OkI F T k np O it) (hc : OkC F T k np O cs) (he : OkE F T k np O e) : OkE F T k np O (.lc b t it cs e) := fun {G X W x} xo h => by
  unfold ckE at h
  split at h
  · simp only [Bool.and_eq_true] at h
    obtain ⟨⟨⟨⟨⟨⟨⟨h1, h2⟩, h3⟩, h4⟩, h5⟩, h6⟩, h7⟩, h8⟩ := h
    exact .of xo rfl (sd_lc xo b t h1 h2 (by unfold okWs at h3; simpa using h3) h4 h5 (hi xo h6) (fun X' xo' => hc xo' h7) fun X' xo' => (he xo' h8).pe)
  · cases h
theorem ok_dcd {ks vs : Es} (hk : ∀ e, ks = .cons e .nil → OkE F T k np O e) (hv : ∀ e, vs = .cons e .nil → OkE F T k np O e) : OkE F T k np O (.dcd ks vs) := fun {G X W x} xo h => by
  unfold ckE at h
  split at h
  · exact .of xo rfl sd_dic0
  · rename_i pp qq pos kk vv
    simp only [Bool.and_eq_true] at h
    obtain ⟨h1, h2⟩ := h
    have z := sd_dic1 (pos := pos) (hk _ rfl xo h1).pe (hv _ rfl xo h2).pe
    refine .of xo rfl ?_
    have e : (fun (en : Enm) (S : Store) => (evE O kk en S).bind fun k S1 => (evE O vv en S1).bind fun v S2 => mkD [k] [v] S2) = fun en S => evE O (.dcd (.cons kk .nil) (.cons vv .nil)) en S := by
      funext en S
      show _ = (evs O (.cons kk .nil) en S).bind fun ks S1 => (evs O (.cons vv .nil) en S1).bind fun vs S2 => mkD ks vs S2
      show _ = ((evE O kk en S).bind fun x S1 => (Res.ok [] S1).bind fun xs S2 => Res.ok (x :: xs) S2).bind fun ks S1 => ((evE O vv en S1).bind fun x S1 => (Res.ok [] S1).bind fun xs S2 => Res.ok (x :: xs) S2).bind fun vs S2 => mkD ks vs S2
      rw [Res.bind_assoc]
      cases evE O kk en S with
      | stk => rfl
      | exc c fs S1 => rfl
      | ok x S1 =>
        simp only [Res.bind_ok]
        rw [Res.bind_assoc]
        cases evE O vv en S1 <;> rfl
    rw [← e]
    exact z
  · cases h
theorem ok_cst (v : Val) : OkE F T k np O (.cst v) := fun {G X W x} xo h => by
    unfold ckE at h
    exact .of xo (cst_ok (X := X) (F := F) (W := W) h).2 (cst_ok h).1
theorem ok_var (i : Nat) : OkE F T k np O (.var i) := fun {G X W x} xo h => by
    unfold ckE at h
    split at h
    · obtain ⟨v1, v2, v3, v4⟩ := xo.vis h
      exact .of xo rfl (sd_var v1 v2 v3 v4)
    · cases h
theorem ok_glo (n : Str) (v : Val) : OkE F T k np O (.glo n v) := fun {G X W x} xo h => by
    unfold ckE at h
    split at h
    · exact .of xo rfl (glo_ok xo h)
    · exact .of xo rfl (glo_ok_i xo h)
    · exact .of xo rfl (glo_ok_s xo h)
    · cases h
theorem look_zip {fs : List Str} {ws : List V} {f : Str} {v : V} : ∀ {j : Nat}, fs.Nodup → fs[j]? = some f → ws[j]? = some v → (fs.zip ws).lookup f = some v := by
  induction fs generalizing ws with
  | nil => intro j _ h _; simp at h
  | cons g fs ih =>
    intro j nd h1 h2
    cases ws with
    | nil => simp at h2
    | cons u ws =>
      rw [List.zip_cons_cons, List.lookup_cons]
      cases j with
      | zero =>
        simp at h1 h2
        subst h1
        subst h2
        simp
      | succ j =>
        have hm : f ∈ fs := List.mem_of_getElem? (by simpa using h1)
        have hne : (f == g) = false := by
          rw [beq_eq_false_iff_ne]
          intro z
          exact (List.nodup_cons.mp nd).1 (z ▸ hm)
        rw [hne]
        exact ih (List.nodup_cons.mp nd).2 (by simpa using h1) (by simpa using h2)
theorem ok_efl (p c j : Nat) : OkE F T k np O (.efl p c j) := fun {G X W x} xo h => by
  unfold ckE at h
  split at h
  · rename_i y p1 f p2
    simp only [Bool.and_eq_true, decide_eq_true_eq] at h
    obtain ⟨rfl, h⟩ := h
    split at h
    · rename_i i c' hex
      simp only [Bool.and_eq_true, decide_eq_true_eq] at h
      obtain ⟨⟨⟨rfl, h2⟩, h3⟩, h4⟩ := h
      obtain ⟨dd, hsd, rule⟩ := xo.xat i c' hex
      obtain ⟨v1, v2, v3, v4⟩ := xo.vis h2
      rw [← xo.cf] at h3 h4
      refine .of xo rfl ⟨fun pins s st H Q I ⟨en, S, J, r, w, e, q⟩ => (rule y f p2 p1 v1 v2 v3 v4 (List.mem_of_getElem? h3)).run pins s st H Q I ⟨e.iv, ?_⟩⟩
      replace q : PoE F W st H J r (match en[G.N.length]? with
        | some (some (.exc c fs)) => if c = c' then oV fs[j]? S else .stk
        | _ => .stk) Q := q
      split at q
      · rename_i c fs hen
        split at q
        · rename_i hc
          subst hc
          obtain ⟨v, hv, q⟩ := oV_some q
          obtain ⟨vx, g1, g2⟩ := e.en _ _ hen
          rw [WS.st, hsd, List.getElem?_append_right (by rw [I.len, xo.hN]; exact Nat.le_refl _)] at g1
          have hz : G.N.length - st.length = 0 := by rw [I.len, xo.hN, Nat.sub_self]
          rw [hz] at g1
          cases g1
          cases g2 with
          | exc hJ t =>
            obtain ⟨vy, k1, k2⟩ := t.get hv
            exact ⟨_, vy, w.sub _ _ hJ, look_zip h4 h3 k1, q.stay w k2⟩
        · exact q.elim
      · exact q.elim
    · cases h
  · cases h
theorem ok_callD (f : Nat) {es : Es} (ds : List Val) (hs : OkS F T k np O es) : OkE F T k np O (.callD f es ds) := fun {G X W x} xo h => by
  unfold ckE at h
  split at h
  · rename_i mm pp yy zz pq
    simp only [Bool.and_eq_true, decide_eq_true_eq, Bool.not_eq_true'] at h
    obtain ⟨⟨⟨⟨⟨⟨⟨h1, h2⟩, h3⟩, h4⟩, h5⟩, h6⟩, h7⟩, h8⟩ := h
    have e := dfB_eq h8
    have z := sd_callD (p := pp) (pos := pq) xo h6 h1 h7 h2 h3 (by simpa using h4) (hs xo h5)
    rw [← e] at z
    exact .of xo rfl z
  · cases h
def tCls (F : Fx) (ks : List Nat) : TA := fun _ H Q => Q (ks.map fun k => V.ref (F.ca k)) H
theorem pa_cls {G : Ck} {X : Cx} {W : WS} (xo : XOk F T k O np G X W) : ∀ {ks : List Nat} {es : List Expr}, clsB T G ks es = true → PA X es (tCls F ks) ∧ ∀ c ∈ ks, c < T.cl.length
  | [], [], _ => ⟨⟨fun pos pins s σ H Q I h => pa_nil.run pos pins s σ H Q I h⟩, fun c h => (nomatch h)⟩
  | [], _ :: _, h => by cases h
  | _ :: _, [], h => by cases h
  | c :: ks, e :: es, h => by
    unfold clsB at h
    obtain ⟨h1, h2⟩ := Bool.and_eq_true_iff.mp h
    obtain ⟨ih, il⟩ := pa_cls xo h2
    split at h1
    · rename_i n q
      simp only [Bool.and_eq_true, decide_eq_true_eq, Bool.not_eq_true'] at h1
      obtain ⟨⟨a1, a2⟩, a3⟩ := h1
      refine ⟨⟨fun pos pins s σ H Q I hq => (pa_cons (pe_glob (v := .ref (F.ca c)) (xo.glo a2) (xo.cls c _ a1) rfl a3) ih).run pos pins s σ H Q I hq⟩, fun d hd => ?_⟩
      rcases List.mem_cons.mp hd with rfl | hd
      · exact (List.getElem?_eq_some_iff.mp a1).1
      · exact il d hd
    · cases h1
theorem kit_sub {G : Ck} {X : Cx} {W : WS} (xo : XOk F T k O np G X W) {c d : Nat} (hc : c < T.cl.length) (hd : d < T.cl.length) : PySem.W.kitOne X.K (.ref (F.ca c)) (.ref (F.ca d)) = some (O.sub c d) := by
  have e := xo.sub c d hc hd
  unfold PySem.W.kitOne
  by_cases q : (Value.ref (F.ca c) == Value.ref (F.ca d)) = true
  · rw [if_pos q]
    have q' := beq_iff_eq.mp q
    have e2 := xo.sub c c hc hc
    rw [← q', e2, xo.srf c hc] at e
    rw [← Option.some.inj e]
  · rw [if_neg q]
    unfold PySem.W.exmOne at e
    split at e
    · exact e
    · cases e
theorem kit_subs {G : Ck} {X : Cx} {W : WS} (xo : XOk F T k O np G X W) {c : Nat} (hc : c < T.cl.length) : ∀ {ks : List Nat}, (∀ d ∈ ks, d < T.cl.length) → PySem.W.kitAny X.K (.ref (F.ca c)) (ks.map fun d => Value.ref (F.ca d)) = some (ks.any fun d => O.sub c d)
  | [], _ => rfl
  | d :: ks, h => by
    rw [List.map_cons, List.any_cons]
    refine kitAny_cons (kit_sub xo hc (h d (List.mem_cons_self ..))) (fun q => ?_) (fun q => by rw [q]; rfl)
    rw [q, Bool.false_or]
    exact kit_subs xo hc fun e he => h e (List.mem_cons_of_mem _ he)
theorem cls_pair (F : Fx) : ∀ ks : List Nat, Paired ClsV (ks.map fun k => V.ref (F.ca k)) (ks.map fun k => Value.ref (F.ca k))
  | [] => .nil
  | k :: ks => .cons (.own _) (cls_pair F ks)
theorem exc_hand {G : Ck} {X : Cx} {W : WS} (xo : XOk F T k O np G X W) {pins : List (Addr × Obj)} {s : Shared} {st : L2.St} {H J : Hp} {r : List Addr} {S : Store} {en : Enm} {c dd : Nat} {fs : List Val} (I : Inv X pins st H s) (w : Wo F H J r S) (e : EnW F W J r en st) (hsd : W.sd = [.ref dd]) (hen : en[G.N.length]? = some (some (.exc c fs))) : ∃ ws, H dd = some (.xd ((F.cf c).zip ws)) := by
  obtain ⟨vx, g1, g2⟩ := e.en _ _ hen
  rw [WS.st, hsd, List.getElem?_append_right (by rw [I.len, xo.hN]; exact Nat.le_refl _)] at g1
  have hz : G.N.length - st.length = 0 := by rw [I.len, xo.hN, Nat.sub_self]
  rw [hz] at g1
  cases g1
  cases g2 with
  | exc hJ t => exact ⟨_, w.sub _ _ hJ⟩
theorem ok_eisi (p c : Nat) (ks : List Nat) (b : Bool) : OkE F T k np O (.eisi p c ks b) := fun {G X W x} xo h => by
  unfold ckE at h
  split at h
  · rename_i m p1 y p2 n q p3
    simp only [Bool.and_eq_true, decide_eq_true_eq, Bool.not_eq_true'] at h
    obtain ⟨⟨⟨⟨⟨rfl, rfl⟩, h2⟩, rfl⟩, h4⟩, h5⟩ := h
    obtain ⟨g1, g2⟩ := xo.free h2
    split at h5
    · rename_i i c' hex
      simp only [Bool.and_eq_true, decide_eq_true_eq] at h5
      obtain ⟨rfl, hv⟩ := h5
      obtain ⟨hc, a, dd, hsd, hiv, r1, r2⟩ := xo.xis i c' hex
      obtain ⟨v1, v2, v3, v4⟩ := xo.vis hv
      obtain ⟨pc, kl⟩ := pa_cls xo h4
      obtain ⟨d, rfl⟩ : ∃ d, ks = [d] := by
        match ks, h4 with
        | [d], _ => exact ⟨d, rfl⟩
        | [], h => cases h
        | _ :: _ :: _, h => unfold clsB at h; simp [clsB] at h
      refine .of xo rfl ⟨fun pins s st H Q I ⟨en, S, J, r, w, e, q⟩ => (pe_callB r1 g1 g2 PyProof.Rows.boot_isinstance (pa_cons (pe_var v1 v2 v3 v4) pc) (by decide) (by decide)).run pins s st H Q I ?_⟩
      replace q : PoE F W st H J r (match en[G.N.length]? with
        | some (some (.exc c'' fs)) => if c'' = c' then .ok (.bl ([d].any fun k => O.sub c' k)) S else .stk
        | _ => .stk) Q := q
      split at q
      · rename_i c'' fs hen
        split at q
        · rename_i hcc
          subst hcc
          obtain ⟨ws, hH⟩ := exc_hand xo I w e hsd hen
          have hk := kit_sub xo hc (kl d (List.mem_cons_self ..))
          have e1 : ([d].any fun k => O.sub c'' k) = O.sub c'' d := by simp
          rw [e1] at q
          exact ⟨.ref a, hiv st e.iv, .ref (F.ca d), .ref (F.ca d), _, _, rfl, hH, fun u hu => hu, hk, q.stay w (.bl _)⟩
        · exact q.elim
      · exact q.elim
    · cases h5
  · rename_i m p1 y p2 es kk p3 p4
    simp only [Bool.and_eq_true, decide_eq_true_eq] at h
    obtain ⟨⟨⟨⟨⟨⟨rfl, rfl⟩, h2⟩, rfl⟩, h4⟩, h6⟩, h5⟩ := h
    obtain ⟨g1, g2⟩ := xo.free h2
    split at h5
    · rename_i i c' hex
      simp only [Bool.and_eq_true, decide_eq_true_eq] at h5
      obtain ⟨rfl, hv⟩ := h5
      obtain ⟨hc, a, dd, hsd, hiv, r1, r2⟩ := xo.xis i c' hex
      obtain ⟨v1, v2, v3, v4⟩ := xo.vis hv
      obtain ⟨pc, kl⟩ := pa_cls xo h4
      have kl2 : ∀ {ks : List Nat} {es : List Expr}, clsB T G ks es = true → ks.length = es.length := fun {ks} => by
        induction ks with
        | nil => intro es h; cases es with
          | nil => rfl
          | cons _ _ => cases h
        | cons k ks ih => intro es h; cases es with
          | nil => cases h
          | cons e es =>
            unfold clsB at h
            rw [List.length_cons, List.length_cons, ih (Bool.and_eq_true_iff.mp h).2]
      have hl := kl2 h4
      refine .of xo rfl ⟨fun pins s st H Q I ⟨en, S, J, r, w, e, q⟩ => (pe_callB r2 g1 g2 PyProof.Rows.boot_isinstance (pa_cons (pe_var v1 v2 v3 v4) (pa_cons (pe_tup pc) pa_nil)) (by decide) (by decide)).run pins s st H Q I ?_⟩
      replace q : PoE F W st H J r (match en[G.N.length]? with
        | some (some (.exc c'' fs)) => if c'' = c' then .ok (.bl (ks.any fun k => O.sub c' k)) S else .stk
        | _ => .stk) Q := q
      split at q
      · rename_i c'' fs hen
        split at q
        · rename_i hcc
          subst hcc
          obtain ⟨ws, hH⟩ := exc_hand xo I w e hsd hen
          have hk := kit_subs xo hc kl
          refine ⟨.ref a, hiv st e.iv, ?_⟩
          refine ⟨by rw [List.length_map, hl]; exact Nat.le_trans h6 (by decide), fun tp htp => ?_⟩
          obtain ⟨w3, l3⟩ := w.frz (o := .tup (ks.map fun k => V.ref (F.ca k))) htp
          have ne : dd ≠ tp := fun z => by rw [z, htp] at hH; cases hH
          exact ⟨tp, _, _, _, _, rfl, by rw [upd_ne ne]; exact hH, upd_same, cls_pair F ks, hk, (q.le l3).stay w3 (.bl _)⟩
        · exact q.elim
      · exact q.elim
    · cases h5
  · cases h
theorem ok_snil : OkS F T k np O .nil := fun {G X W xs} xo h => by
    unfold ckS at h
    split at h
    · exact sa_nil
    · cases h
theorem ok_scons {e : E} {es : Es} (he : OkE F T k np O e) (hs : OkS F T k np O es) : OkS F T k np O (.cons e es) := fun {G X W xs} xo h => by
    unfold ckS at h
    split at h
    · simp only [Bool.and_eq_true] at h
      obtain ⟨⟨h1, h2⟩, h3⟩ := h
      exact sa_cons h1 (he xo h2).pe (hs xo h3)
    · cases h
theorem ok_no : OkP F T k np O .no := fun {G X W x} xo h => by
    unfold ckP at h
    split at h
    · exact po_no
    · cases h
theorem ok_yes {e : E} (he : OkE F T k np O e) : OkP F T k np O (.yes e) := fun {G X W x} xo h => by
    unfold ckP at h
    split at h
    · exact po_yes (he xo h).pe
    · cases h
theorem ok_cnil : OkC F T k np O .nil := fun {G X W xs} xo h => by
    unfold ckC at h
    split at h
    · exact ⟨fun pins s st H Q I ⟨en, S, J, r, w, e, p⟩ => pts_nil.run pins s st H Q I (p H J r w Le.refl)⟩
    · cases h
theorem ok_ccons {e : E} {es : Es} (he : OkE F T k np O e) : OkC F T k np O (.cons e es) := fun {G X W xs} xo h => by
    unfold ckC at h
    split at h
    · simp only [Bool.and_eq_true] at h
      have z := pts_one ((he xo h.1).pt h.2)
      have e2 : TB F W (fun en S => (evE O e en S).bind truR) = TB F W fun en S => evC O (.cons e .nil) en S := TB.cong fun en S => by
        show _ = (evE O e en S).bind fun x S1 => (truR x S1).bind fun c S2 => if c = true then .ok true S2 else .ok false S2
        congr 1
        funext x S1
        rcases truR_cases x S1 with ⟨b, t1, t2⟩ | t2
        · rw [t2]; cases b <;> rfl
        · rw [t2]; rfl
      rw [e2] at z
      exact z
    · cases h
theorem ok_ival {e : E} (he : OkE F T k np O e) : OkI F T k np O (.val e) := fun {G X W tg x} xo h => by
    unfold ckI at h
    exact si_val xo.sx.hK (he xo h).pe
theorem ok_irng1 {e : E} (he : OkE F T k np O e) : OkI F T k np O (.rng1 e) := fun {G X W tg x} xo h => by
    unfold ckI at h
    split at h
    · simp only [Bool.and_eq_true, decide_eq_true_eq] at h
      obtain ⟨⟨⟨rfl, h1⟩, h2⟩, h3⟩ := h
      obtain ⟨g1, g2⟩ := xo.free h1
      exact si_rng1 g1 g2 h2 (he xo h3).pe
    · cases h
theorem ok_irng2 {a b : E} (ha : OkE F T k np O a) (hb : OkE F T k np O b) : OkI F T k np O (.rng2 a b) := fun {G X W tg x} xo h => by
    unfold ckI at h
    split at h
    · simp only [Bool.and_eq_true, decide_eq_true_eq] at h
      obtain ⟨⟨⟨⟨⟨rfl, h1⟩, h2⟩, h3⟩, h4⟩, h5⟩ := h
      obtain ⟨g1, g2⟩ := xo.free h1
      exact si_rng2 g1 g2 h2 h3 (ha xo h4).pe (hb xo h5).pe
    · cases h
theorem ok_ienm {e : E} (he : OkE F T k np O e) : OkI F T k np O (.enm e) := fun {G X W tg x} xo h => by
    unfold ckI at h
    split at h
    · simp only [Bool.and_eq_true, decide_eq_true_eq] at h
      obtain ⟨⟨⟨rfl, h1⟩, h2⟩, h3⟩ := h
      obtain ⟨g1, g2⟩ := xo.free h1
      exact si_enm xo.sx.hK g1 g2 h2 (he xo h3).pe
    · cases h
theorem ok_izip {a b : E} (ha : OkE F T k np O a) (hb : OkE F T k np O b) : OkI F T k np O (.zip a b) := fun {G X W tg x} xo h => by
    unfold ckI at h
    split at h
    · simp only [Bool.and_eq_true, decide_eq_true_eq] at h
      obtain ⟨⟨⟨⟨⟨rfl, h1⟩, h2⟩, h3⟩, h4⟩, h5⟩ := h
      obtain ⟨g1, g2⟩ := xo.free h1
      exact si_zip xo.sx.hK g1 g2 h2 h3 (ha xo h4).pe (hb xo h5).pe
    · cases h
theorem ok_irev {e : E} (he : OkE F T k np O e) : OkI F T k np O (.rev e) := fun {G X W tg x} xo h => by
    unfold ckI at h
    split at h
    · simp only [Bool.and_eq_true, decide_eq_true_eq] at h
      obtain ⟨⟨⟨rfl, h1⟩, h2⟩, h3⟩ := h
      obtain ⟨g1, g2⟩ := xo.free h1
      exact si_rev xo.sx.hK g1 g2 h2 (he xo h3).pe
    · cases h
mutual
theorem okE (hO : O.nf = T.fn.length) : ∀ e : E, OkE F T k np O e
  | .cst v => ok_cst v
  | .var i => ok_var i
  | .glo n v => ok_glo n v
  | .efl p c j => ok_efl p c j
  | .eisi p c ks b => ok_eisi p c ks b
  | .callD f es ds => ok_callD f ds (okS hO es)
  | .bin o a b => ok_bin o (okE hO a) (okE hO b)
  | .neg a => ok_neg (okE hO a)
  | .not a => ok_not (okE hO a)
  | .and a b => ok_and (okE hO a) (okE hO b)
  | .or a b => ok_or (okE hO a) (okE hO b)
  | .cmp o a b => ok_cmp o (okE hO a) (okE hO b)
  | .chn o p a b c => ok_chn o p (okE hO a) (okE hO b) (okE hO c)
  | .ife c a b => ok_ife (okE hO c) (okE hO a) (okE hO b)
  | .isi a ts => ok_isi ts (okE hO a)
  | .idx a i => ok_idx (okE hO a) (okE hO i)
  | .slc a lo hi => ok_slc (okE hO a) (okP hO lo) (okP hO hi)
  | .slcR a lo hi => ok_slcR (okE hO a) (okP hO lo) (okP hO hi)
  | .tpd es => ok_tpd (okS hO es)
  | .lsd b es => ok_lsd b (okS hO es)
  | .dcd ks vs => ok_dcd (okD hO ks) (okD hO vs)
  | .blt f es => ok_blt f (okS hO es)
  | .call f es => ok_call f (okS hO es)
  | .callv i es => ok_callv hO i (okS hO es)
  | .mth m o es => ok_mth m (okE hO o) (okS hO es)
  | .lc b t it cs e => ok_lc b t (okI hO it) (okC hO cs) (okE hO e)
theorem okD (hO : O.nf = T.fn.length) : ∀ (es : Es) (e : E), es = .cons e .nil → OkE F T k np O e
  | .nil, _, h => by cases h
  | .cons e es, e', h => by
    cases h
    exact okE hO e
theorem okS (hO : O.nf = T.fn.length) : ∀ es : Es, OkS F T k np O es
  | .nil => ok_snil
  | .cons e es => ok_scons (okE hO e) (okS hO es)
theorem okP (hO : O.nf = T.fn.length) : ∀ p : Po, OkP F T k np O p
  | .no => ok_no
  | .yes e => ok_yes (okE hO e)
theorem okC (hO : O.nf = T.fn.length) : ∀ es : Es, OkC F T k np O es
  | .nil => ok_cnil
  | .cons e es => ok_ccons (okE hO e)
theorem okI (hO : O.nf = T.fn.length) : ∀ i : It, OkI F T k np O i
  | .val e => ok_ival (okE hO e)
  | .rng1 e => ok_irng1 (okE hO e)
  | .rng2 a b => ok_irng2 (okE hO a) (okE hO b)
  | .enm e => ok_ienm (okE hO e)
  | .zip a b => ok_izip (okE hO a) (okE hO b)
  | .rev e => ok_irev (okE hO e)
end
end
end GW
/-! Core 16: statements. -/
namespace GW
open PySem L2
section
variable {F : Fx} {X : Cx} {W : WS} {pins : List (Addr × Obj)} {s : Shared} {st : L2.St} {H J H1 J1 H0 J0 : Hp} {r r1 r0 : List Addr} {S S0 : Store} {en : Enm} {n : Nat} {D : Ends}
variable {a b c e tg : Expr} {es : List Expr} {pos : Pos}
variable {T : Tab} {k : Nat} {np : Nat → Nat} {G : Ck} {O : Om}
theorem WS.len (W : WS) (st : L2.St) : (W.st st).length = st.length + W.sd.length := by simp [WS.st]
theorem WS.set (W : WS) {st : L2.St} {i : Nat} (v : Option V) (h : i < st.length) : (W.st st).set i v = W.st (st.set i v) := by
  unfold WS.st
  rw [List.set_append_left _ _ h]
theorem WS.sets (W : WS) : ∀ {is : List Nat} {vs : List V} {st : L2.St}, (∀ i ∈ is, i < st.length) → GW.sets (W.st st) is vs = W.st (GW.sets st is vs)
  | [], _, _, _ => rfl
  | _ :: _, [], _, _ => rfl
  | i :: is, v :: vs, st, h => by
    show GW.sets ((W.st st).set i (some v)) is vs = W.st (GW.sets (st.set i (some v)) is vs)
    rw [W.set _ (h i (List.mem_cons_self ..)), WS.sets W fun j hj => by rw [List.length_set]; exact h j (List.mem_cons_of_mem _ hj)]
theorem WS.stT (W : WS) {t : Tg} {x : V} {vs : List V} {st : L2.St} (h : ∀ i ∈ t.ixs, i < st.length) : GW.stT t x vs (W.st st) = W.st (GW.stT t x vs st) := by
  cases t with
  | one i => exact W.set _ (h i (by simp [Tg.ixs]))
  | tup is => exact W.sets h
def PoL (F : Fx) (W : WS) (n : Nat) (H J : Hp) (r : List Addr) (x : Fl) (D : Ends) : Prop := match x with
  | .nx en' S' => ∀ st' H' J' r', st'.length = n → Wo F H' J' r' S' → Le H J r H' J' r' → EnW F W J' r' en' st' → en'.length = (W.st st').length → D.nx st' H'
  | .rt v S' => ∀ H' J' r' u, Wo F H' J' r' S' → Le H J r H' J' r' → Rep F J' r' v u → D.rt u H'
  | .ex c fs en' S' => ∀ st' H' J' r' d ws, st'.length = n → Wo F H' J' r' S' → Le H J r H' J' r' → EnW F W J' r' en' st' → en'.length = (W.st st').length → J' d = some (.xd ((F.cf c).zip ws)) → Reps F J' r' fs ws → W.w (.ref (F.ca c)) (some d) st' H'
  | .stk => False
def TSr (F : Fx) (W : WS) (f : Enm → Store → Fl) : TS := fun D st H => ∃ en S J r, Wo F H J r S ∧ EnW F W J r en st ∧ en.length = (W.st st).length ∧ PoL F W st.length H J r (f en S) D
theorem PoL.le {x : Fl} (l : Le H J r H1 J1 r1) (p : PoL F W n H J r x D) : PoL F W n H1 J1 r1 x D := by
  cases x with
  | nx en S => exact fun st' H' J' r' a b c d e => p st' H' J' r' a b (l.trans c) d e
  | rt v S => exact fun H' J' r' u a b c => p H' J' r' u a (l.trans b) c
  | ex c fs en S => exact fun st' H' J' r' d ws a b c e f g h => p st' H' J' r' d ws a b (l.trans c) e f g h
  | stk => exact p
theorem TSr.ofE {fe : Enm → Store → Res Val} {g : Enm → Val → Store → Fl} (p : TSr F W (fun en S => (fe en S).to en (g en)) D st H) :
    TT F W fe st H fun v H1 => ∃ en J1 r1 S1 x, EnW F W J1 r1 en st ∧ en.length = (W.st st).length ∧ Wo F H1 J1 r1 S1 ∧ Rep F J1 r1 x v ∧ PoL F W st.length H1 J1 r1 (g en x S1) D := by
  obtain ⟨en, S, J, r, w, e, hl, p⟩ := p
  refine ⟨en, S, J, r, w, e, ?_⟩
  dsimp only at p
  cases h : fe en S with
  | ok x S1 =>
    rw [h] at p
    exact fun H' J' r' v a b c => ⟨en, J', r', S1, x, e.le b, hl, a, c, p.le b⟩
  | exc c fs S1 =>
    rw [h] at p
    exact fun H' J' r' d ws a b c f => p st H' J' r' d ws rfl a b (e.le b) hl c f
  | stk => rw [h] at p; exact p
theorem TSr.ofB {fe : Enm → Store → Res Bool} {g : Enm → Bool → Store → Fl} (p : TSr F W (fun en S => (fe en S).to en (g en)) D st H) :
    TB F W fe st H fun b H1 => ∃ en J1 r1 S1, EnW F W J1 r1 en st ∧ en.length = (W.st st).length ∧ Wo F H1 J1 r1 S1 ∧ PoL F W st.length H1 J1 r1 (g en b S1) D := by
  obtain ⟨en, S, J, r, w, e, hl, p⟩ := p
  refine ⟨en, S, J, r, w, e, ?_⟩
  dsimp only at p
  cases h : fe en S with
  | ok x S1 =>
    rw [h] at p
    exact fun H' J' r' a b => ⟨en, J', r', S1, e.le b, hl, a, p.le b⟩
  | exc c fs S1 =>
    rw [h] at p
    exact fun H' J' r' d ws a b c f => p st H' J' r' d ws rfl a b (e.le b) hl c f
  | stk => rw [h] at p; exact p
theorem TSr.ofA {fe : Enm → Store → Res (List Val)} {g : Enm → List Val → Store → Fl} (p : TSr F W (fun en S => (fe en S).to en (g en)) D st H) :
    TAA F W fe st H fun vs H1 => ∃ en J1 r1 S1 xs, EnW F W J1 r1 en st ∧ en.length = (W.st st).length ∧ Wo F H1 J1 r1 S1 ∧ Reps F J1 r1 xs vs ∧ PoL F W st.length H1 J1 r1 (g en xs S1) D := by
  obtain ⟨en, S, J, r, w, e, hl, p⟩ := p
  refine ⟨en, S, J, r, w, e, ?_⟩
  dsimp only at p
  cases h : fe en S with
  | ok x S1 =>
    rw [h] at p
    exact fun H' J' r' v a b c => ⟨en, J', r', S1, x, e.le b, hl, a, c, p.le b⟩
  | exc c fs S1 =>
    rw [h] at p
    exact fun H' J' r' d ws a b c f => p st H' J' r' d ws rfl a b (e.le b) hl c f
  | stk => rw [h] at p; exact p
theorem TSr.ofW {fe : Enm → Store → Res Wk} {g : Enm → Wk → Store → Fl} (p : TSr F W (fun en S => (fe en S).to en (g en)) D st H) :
    TW F W fe st H fun it H1 => ∃ en J1 r1 S1 wk, EnW F W J1 r1 en st ∧ en.length = (W.st st).length ∧ Wo F H1 J1 r1 S1 ∧ Iok F it wk H1 J1 r1 ∧ PoL F W st.length H1 J1 r1 (g en wk S1) D := by
  obtain ⟨en, S, J, r, w, e, hl, p⟩ := p
  refine ⟨en, S, J, r, w, e, ?_⟩
  dsimp only at p
  cases h : fe en S with
  | ok x S1 =>
    rw [h] at p
    exact fun H' J' r' v a b c => ⟨en, J', r', S1, x, e.le b, hl, a, c, p.le b⟩
  | exc c fs S1 =>
    rw [h] at p
    exact fun H' J' r' d ws a b c f => p st H' J' r' d ws rfl a b (e.le b) hl c f
  | stk => rw [h] at p; exact p
theorem PoL.put (o : XOk F T k O np G X W) {x : Val} {v : V} {i : Nat} (w : Wo F H J r S) (e : EnW F W J r en st) (hl : en.length = (W.st st).length) (kx : Rep F J r x v) (hi : i < st.length) (hx : G.ex.map (·.1) ≠ some i) (p : PoL F W st.length H J r (.nx (en.set i (some x)) S) D) : D.nx (st.set i (some v)) H := by
  refine p _ H J r (List.length_set ..) w Le.refl ?_ ?_
  · refine ⟨?_, o.iv _ _ _ hx e.iv⟩
    rw [← W.set _ hi]
    exact e.en.put kx (by rw [W.len]; omega)
  · rw [List.length_set, hl, W.len, W.len, List.length_set]
theorem TS.len {X : Cx} {x : Stmt} {t u : TS} (h : ∀ D st H, st.length = X.N.length → u D st H → t D st H) (p : PS X x t) : PS X x u := ⟨fun pins s st H D I q => p.run pins s st H D I (h D st H I.len q)⟩
theorem TSs.imp {X : Cx} {x : List Stmt} {t u : TS} (h : ∀ D st H, u D st H → t D st H) (p : PSs X x t) : PSs X x u := ⟨fun pins s st H D I q => p.run pins s st H D I (h D st H q)⟩
theorem st_nil : PSs X [] (TSr F W fun en S => .nx en S) := TSs.imp (fun D st H ⟨en, S, J, r, w, e, hl, p⟩ => p st H J r rfl w Le.refl e hl) pss_nil
theorem st_cons {x : Stmt} {xs : List Stmt} {f g : Enm → Store → Fl} (h1 : PS X x (TSr F W f)) (h2 : PSs X xs (TSr F W g)) : PSs X (x :: xs) (TSr F W fun en S => (f en S).then fun en' S' => g en' S') := by
  refine TSs.imp (fun D st H ⟨en, S, J, r, w, e, hl, p⟩ => ?_) (pss_cons h1 h2)
  refine ⟨en, S, J, r, w, e, hl, ?_⟩
  dsimp only at p
  cases h : f en S with
  | nx en' S' =>
    rw [h] at p
    exact fun st' H' J' r' a1 a2 a3 a4 a5 => ⟨en', S', J', r', a2, a4, a5, by rw [a1]; exact PoL.le a3 p⟩
  | rt v S' => rw [h] at p; exact p
  | ex c fs en' S' => rw [h] at p; exact p
  | stk => rw [h] at p; exact p
theorem st_set (o : XOk F T k O np G X W) {i : Nat} {x : Str} {p : Pos} (hi : G.loc i x = true) {fe : Enm → Store → Res Val} (he : PE X e (TT F W fe)) (hs : swapsWith e (some (.Name x p)) pos.line X.env = pure false) :
    PS X (.Assign [.Name x p] e pos) (TSr F W fun en S => (fe en S).to en fun v S1 => .nx (en.set i (some v)) S1) := by
  obtain ⟨⟨q1, q2, q3⟩, q4⟩ := o.loc' hi
  refine TS.len (fun D st H hn q => ?_) (ps_set o.nd' q1 q2 he hs q3)
  have hlt : i < st.length := by rw [hn]; exact (List.getElem?_eq_some_iff.mp q1).1
  exact TT.mono (fun v H1 ⟨en, J1, r1, S1, x, e1, hl, w1, kx, p1⟩ => PoL.put o w1 e1 hl kx hlt q4 p1) (TSr.ofE (g := fun en v S1 => .nx (en.set i (some v)) S1) q)
theorem put_stmt (hK : F.K = X.K) (hiv : ∀ st, W.iv st) {t : Tg} (w : Wo F H J r S) (e : EnW F W J r en st) (hl : en.length = (W.st st).length) {x : Val} {v : V} {en' : Enm} (kx : Rep F J r x v) (hi : ∀ i ∈ t.ixs, i < st.length) (h : putT t x en = some en') :
    ∃ vs, EnW F W J r en' (stT t v vs st) ∧ en'.length = (W.st (stT t v vs st)).length ∧ (stT t v vs st).length = st.length ∧ ∀ Q : L2.St → Hp → Prop, Q (stT t v vs st) H → gTg X.K t v st H Q := by
  obtain ⟨vs, ex, h2, put⟩ := put_ok hK t w kx (e.en.toX []) (fun i z => by rw [W.len]; have := hi i z; omega) h
  refine ⟨vs, ?_, ?_, stT_length .., fun Q q => put st Q q⟩
  · refine ⟨?_, hiv _⟩
    rw [← W.stT hi]; exact EnX.nil (by simpa using ex)
  · rw [h2, hl, W.len, W.len, stT_length]
theorem st_tset (o : XOk F T k O np G X W) (hcm : G.calm = true) {is : List Nat} {es : List Expr} {kk : Nat} {p : Pos} (hi : okGs G is es = true) {fe : Enm → Store → Res Val} (he : PE X e (TT F W fe)) (hs : swapsWithSole [.Tuple es kk p] e pos.line X.env = pure false) (hw : swappedStores [.Tuple es kk p] e X.env = pure none) :
    PS X (.Assign [.Tuple es kk p] e pos) (TSr F W fun en S => (fe en S).to en fun v S1 => match putT (.tup is) v en with
      | some en' => .nx en' S1
      | none => .stk) := by
  obtain ⟨g, hlt⟩ := okTg_ok (t := .tup is) (e := .Tuple es kk p) o hcm hi
  refine TS.len (fun D st H hn q => ?_) (ps_asg he g hs hw rfl)
  refine TT.mono (fun v H1 ⟨en, J1, r1, S1, x, e1, hl, w1, kx, p1⟩ => ?_) (TSr.ofE (g := fun en v S1 => match putT (.tup is) v en with
      | some en' => .nx en' S1
      | none => .stk) q)
  cases hp : putT (.tup is) x en with
  | none => rw [hp] at p1; exact p1.elim
  | some en' =>
    rw [hp] at p1
    obtain ⟨vs, z1, z2, z3, z4⟩ := put_stmt o.sx.hK (o.ivc hcm) (t := .tup is) w1 e1 hl kx (fun i z => by rw [hn, o.hN]; exact hlt i z) hp
    exact z4 _ (p1 _ H1 J1 r1 z3 w1 Le.refl z1 z2)
theorem setL (hK : F.K = X.K) : PSet X fun o i v H Q => ∃ J r S xo xi xv, Wo F H J r S ∧ Rep F J r xo o ∧ Rep F J r xi i ∧ Rep F J r xv v ∧ ∃ S', setSub xo xi xv S = some S' ∧ ∀ H' J' r', Wo F H' J' r' S' → Le H J r H' J' r' → Q H' := by
  rintro pins s st H o i v ov iv u Q I ro ri rv ⟨J, r, S, xo, xi, xv, w, ko, ki, kv, S', hs, q⟩
  refine set_list pins s st H o i v ov iv u Q I ro ri rv ?_
  unfold setSub at hs
  split at hs
  · split at hs
    · rename_i l kk xs e0
      simp only [Option.map_eq_some_iff] at hs
      obtain ⟨j, hj, rfl⟩ := hs
      cases ki
      cases ko with
      | ref e1 =>
        obtain ⟨b', e2, vs, e3, t⟩ := w.obs _ _ e0
        rw [e1] at e2
        cases e2
        obtain ⟨w2, l2⟩ := w.wr (u := .lst (vs.set j v)) (o := .lst (xs.set j xv)) e1 ⟨_, upd_same, t.set kv j⟩
        exact ⟨_, vs, _, j, rfl, rfl, e3, by rw [t.length]; exact hj, q _ _ _ w2 l2⟩
    · cases hs
  · cases hs
theorem st_sset (o : XOk F T k O np G X W) {p : Pos} {fe fa fi : Enm → Store → Res Val} (he : PE X e (TT F W fe)) (ha : PE X a (TT F W fa)) (hi : PE X b (TT F W fi)) (hx : okX b = true) (hs : swapsWith e (some (.Subscript a b p)) pos.line X.env = pure false) :
    PS X (.Assign [.Subscript a b p] e pos) (TSr F W fun en S => (fe en S).to en fun v S1 => (fa en S1).to en fun x S2 => (fi en S2).to en fun k S3 => match setSub x k v S3 with
      | some S4 => .nx en S4
      | none => .stk) := by
  refine TS.len (fun D st H hn q => ?_) (ps_asg he (pg_sub ha hi (setL o.sx.hK) (fun v => by cases b <;> first | rfl | (cases hx; done))) hs rfl rfl)
  refine TT.mono (fun v H1 ⟨en, J1, r1, S1, xv, e1, hl, w1, kv, p1⟩ => ?_) (TSr.ofE (g := fun en v S1 => (fa en S1).to en fun x S2 => (fi en S2).to en fun k S3 => match setSub x k v S3 with
      | some S4 => .nx en S4
      | none => .stk) q)
  have two : ∀ {f : Enm → Store → Res Val} {g : Val → Store → Fl} {en J r S H}, Wo F H J r S → EnW F W J r en st → en.length = (W.st st).length → PoL F W st.length H J r ((f en S).to en g) D →
      TT F W f st H fun v H1 => ∃ J1 r1 S1 x, Wo F H1 J1 r1 S1 ∧ Le H J r H1 J1 r1 ∧ Rep F J1 r1 x v ∧ PoL F W st.length H1 J1 r1 (g x S1) D := fun {f g en J r S H} w e hl p => by
    refine ⟨en, S, J, r, w, e, ?_⟩
    cases h : f en S with
    | ok x S1 =>
      rw [h] at p
      exact fun H' J' r' v a b c => ⟨J', r', S1, x, a, b, c, p.le b⟩
    | exc c fs S1 =>
      rw [h] at p
      exact fun H' J' r' d ws a b c f => p st H' J' r' d ws rfl a b (e.le b) hl c f
    | stk => rw [h] at p; exact p
  refine TT.mono (fun x H2 ⟨J2, r2, S2, xa, w2, l2, ka, p2⟩ => ?_) (two w1 e1 hl p1)
  refine TT.mono (fun i H3 ⟨J3, r3, S3, xi, w3, l3, ki, p3⟩ => ?_) (two w2 (e1.le l2) hl p2)
  cases h : setSub xa xi xv S3 with
  | none => rw [h] at p3; exact p3.elim
  | some S4 =>
    rw [h] at p3
    exact ⟨J3, r3, S3, xa, xi, xv, w3, ka.le l3, ki, (kv.le l2).le l3, S4, h, fun H' J' r' w' l' => p3 st H' J' r' rfl w' l' (((e1.le l2).le l3).le l') hl⟩
theorem st_exp {fe : Enm → Store → Res Val} (he : PE X e (TT F W fe)) (hs : swapsWith e none pos.line X.env = pure false) : PS X (.Expr e pos) (TSr F W fun en S => (fe en S).to en fun _ S1 => .nx en S1) :=
  TS.len (fun D st H hn q => TT.mono (fun v H1 ⟨en, J1, r1, S1, x, e1, hl, w1, kx, p1⟩ => p1 st H1 J1 r1 rfl w1 Le.refl e1 hl) (TSr.ofE (g := fun en _ S1 => .nx en S1) q)) (ps_expr he hs)
theorem st_ret {fe : Enm → Store → Res Val} (he : PE X e (TT F W fe)) : PS X (.Return (some e) pos) (TSr F W fun en S => (fe en S).to en fun v S1 => .rt v S1) :=
  TS.len (fun D st H hn q => TT.mono (fun v H1 ⟨en, J1, r1, S1, x, e1, hl, w1, kx, p1⟩ => p1 H1 J1 r1 v w1 Le.refl kx) (TSr.ofE (g := fun _ v S1 => .rt v S1) q)) (ps_ret he)
theorem st_retN : PS X (.Return none pos) (TSr F W fun _ S => .rt .non S) := TS.len (fun D st H hn ⟨en, S, J, r, w, e, hl, p⟩ => p H J r .non w Le.refl .non) ps_retN
theorem st_pas : PS X (.Pass pos) (TSr F W fun en S => .nx en S) := TS.len (fun D st H hn ⟨en, S, J, r, w, e, hl, p⟩ => p st H J r rfl w Le.refl e hl) ps_pass
theorem st_if {fc : Enm → Store → Res Bool} {f g : Enm → Store → Fl} {as bs : List Stmt} (hc : PT X c (TB F W fc)) (ha : PSs X as (TSr F W f)) (hb : PSs X bs (TSr F W g)) : PS X (.If c as bs pos) (TSr F W fun en S => (fc en S).to en fun d S1 => if d = true then f en S1 else g en S1) := by
  refine TS.len (fun D st H hn q => ?_) (ps_if hc ha hb)
  have q2 := TSr.ofB (g := fun en d S1 => if d = true then f en S1 else g en S1) q
  obtain ⟨en, S, J, r, w, e, p⟩ := q2
  refine ⟨en, S, J, r, w, e, ?_⟩
  have conv : ∀ {d : Bool} {H1 : Hp}, (∃ en J1 r1 S1, EnW F W J1 r1 en st ∧ en.length = (W.st st).length ∧ Wo F H1 J1 r1 S1 ∧ PoL F W st.length H1 J1 r1 (if d = true then f en S1 else g en S1) D) → (if d = true then TSr F W f D st H1 else TSr F W g D st H1) := fun {d H1} ⟨en, J1, r1, S1, e1, hl, w1, p1⟩ => by
    cases d with
    | true => exact ⟨en, S1, J1, r1, w1, e1, hl, p1⟩
    | false => exact ⟨en, S1, J1, r1, w1, e1, hl, p1⟩
  cases h : fc en S with
  | ok x S1 => rw [h] at p; exact fun H' J' r' a b => conv (p H' J' r' a b)
  | exc c fs S1 => rw [h] at p; exact p
  | stk => rw [h] at p; exact p
theorem st_whl (o : XOk F T k O np G X W) (htp : G.top = true) {fc : Enm → Store → Res Bool} {f : Enm → Store → Fl} {bs : List Stmt} (fu : Nat) (hc : PT X c (TB F W fc)) (hb : PSs X bs (TSr F W f)) : PS X (.While c bs [] pos) (TSr F W fun en S => whlF fc f fu en S) := by
  refine TS.len (fun D st0 H0 hn ⟨en, S, J, r, w, e, hl, p⟩ => ?_) (ps_while (o.po htp) hc hb)
  let Wm : Nat → L2.St → Hp → Prop := fun m st H => ∃ J' r' S en, st.length = st0.length ∧ Wo F H J' r' S ∧ Le H0 J r H J' r' ∧ EnW F W J' r' en st ∧ en.length = (W.st st).length ∧ PoL F W st0.length H0 J r (whlF fc f m en S) D
  refine ⟨Wm, ⟨fu, J, r, S, en, rfl, w, Le.refl, e, hl, p⟩, ?_⟩
  rintro m st H ⟨J1, r1, S1, en, hs, w, l, e, hl, p⟩
  cases m with
  | zero => exact p.elim
  | succ m =>
    refine ⟨en, S1, J1, r1, w, e, ?_⟩
    unfold whlF at p
    cases h : fc en S1 with
    | stk => rw [h] at p; exact p.elim
    | exc c fs S2 =>
      rw [h] at p
      exact fun H' J' r' d ws a b c g => p st H' J' r' d ws hs a (l.trans b) (e.le b) hl c g
    | ok d S2 =>
      rw [h] at p
      intro H2 J2 r2 w2 l2
      cases d with
      | false => exact p st H2 J2 r2 hs w2 (l.trans l2) (e.le l2) hl
      | true =>
        refine ⟨Wm m, fun st' H' z => ⟨m, Nat.lt_succ_self m, z⟩, en, S2, J2, r2, w2, e.le l2, hl, ?_⟩
        simp only [Res.to_ok, if_true] at p
        cases h3 : f en S2 with
        | stk => rw [h3] at p; exact p.elim
        | nx en' S3 =>
          rw [h3] at p
          exact fun st' H' J' r' a1 a2 a3 a4 a5 => ⟨J', r', S3, en', by rw [a1, hs], a2, (l.trans l2).trans a3, a4, a5, p⟩
        | rt v S3 =>
          rw [h3] at p
          exact fun H' J' r' u a1 a2 a3 => p H' J' r' u a1 ((l.trans l2).trans a2) a3
        | ex c fs en' S3 =>
          rw [h3] at p
          exact fun st' H' J' r' d ws a1 a2 a3 a4 a5 a6 a7 => p st' H' J' r' d ws (by rw [a1, hs]) a2 ((l.trans l2).trans a3) a4 a5 a6 a7
theorem st_for (o : XOk F T k O np G X W) (hcm : G.calm = true) (htp : G.top = true) (t : Tg) {iter : Expr} {fi : Enm → Store → Res Wk} {f : Enm → Store → Fl} {bs : List Stmt} (htg : okTg G t tg = true) (hx : okX iter = true) (hi : PI X tg iter (TW F W fi)) (hb : PSs X bs (TSr F W f)) :
    PS X (.For tg iter bs [] pos) (TSr F W fun en S => (fi en S).to en fun wk S1 => forF wk.cs wk.xs t f wk.its en S1) := by
  obtain ⟨g, hlt⟩ := okTg_ok o hcm htg
  refine TS.len (fun D st0 H hn q => ?_) (ps_for (o.po htp) (o.calm hcm) hi g hb (okX_fold hx _))
  have q2 := TSr.ofW (g := fun en wk S1 => forF wk.cs wk.xs t f wk.its en S1) q
  obtain ⟨en, S, J, r, w, e, p⟩ := q2
  refine ⟨en, S, J, r, w, e, ?_⟩
  have conv : ∀ {it : L2.It} {H1 : Hp}, (∃ en J1 r1 S1 wk, EnW F W J1 r1 en st0 ∧ en.length = (W.st st0).length ∧ Wo F H1 J1 r1 S1 ∧ Iok F it wk H1 J1 r1 ∧ PoL F W st0.length H1 J1 r1 (forF wk.cs wk.xs t f wk.its en S1) D) →
      ∃ Wm : Nat → Nat → L2.St → Hp → Prop, (∃ m, Wm 0 m st0 H1) ∧ ∀ i m st H, Wm i m st H → (it.stop i H ∧ D.nx st H) ∨ (it.go i H ∧ ∃ N : L2.St → Hp → Prop, (∀ st' H', N st' H' → ∃ m', m' < m ∧ Wm (i + 1) m' st' H') ∧ ∀ x H', it.yld i H x H' → gTg X.K t x st H' fun st2 H2 => TSr F W f { D with nx := N, ct := N, bk := D.nx } st2 H2) := by
    rintro it H1 ⟨en, J1, r1, S1, wk, e1, hl, w1, ik, p1⟩
    let Wm : Nat → Nat → L2.St → Hp → Prop := fun i m st H => ∃ J r S en, m = wk.its.length - i ∧ st.length = st0.length ∧ Wo F H J r S ∧ Le H1 J1 r1 H J r ∧ EnW F W J r en st ∧ en.length = (W.st st).length ∧ PoL F W st0.length H1 J1 r1 (forF wk.cs wk.xs t f (wk.its.drop i) en S) D
    refine ⟨Wm, ⟨_, J1, r1, S1, en, rfl, rfl, w1, Le.refl, e1, hl, p1⟩, ?_⟩
    rintro i m st H ⟨J, r, S, en, rfl, hs, w, l, e, hl, p⟩
    cases hd : wk.its.drop i with
    | nil =>
      left
      rw [hd] at p
      unfold forF at p
      split at p
      · rename_i lv
        exact ⟨(ik H J r S i l w lv).1 (List.drop_eq_nil_iff.mp hd), p st H J r hs w l e hl⟩
      · exact p.elim
    | cons v rest =>
      right
      have hi : i < wk.its.length := by
        refine Nat.lt_of_not_le fun z => ?_
        rw [List.drop_eq_nil_of_le z] at hd
        cases hd
      have hv : wk.its[i]? = some v := by
        have := List.getElem?_drop (xs := wk.its) (i := i) (j := 0)
        rw [hd] at this
        simpa using this.symm
      have hrest : wk.its.drop (i + 1) = rest := by
        rw [← List.tail_drop, hd]
        rfl
      rw [hd] at p
      unfold forF at p
      split at p
      · rename_i lv
        obtain ⟨hgo, hy⟩ := (ik H J r S i l w lv).2 v hv
        refine ⟨hgo, Wm (i + 1) (wk.its.length - (i + 1)), fun st' H' q => ⟨_, by omega, q⟩, fun x H' yl => ?_⟩
        obtain ⟨J', w', l', kx⟩ := hy x H' yl
        split at p
        · rename_i en' hp
          obtain ⟨vs, z1, z2, z3, z4⟩ := put_stmt o.sx.hK (o.ivc hcm) w' (e.le l') hl kx (fun j z => by rw [hs, hn, o.hN]; exact hlt j z) hp
          refine z4 _ ⟨en', S, J', r, w', z1, z2, ?_⟩
          cases h3 : f en' S with
          | stk => rw [h3] at p; exact p.elim
          | nx en2 S3 =>
            rw [h3] at p
            exact fun st' H' J' r' a1 a2 a3 a4 a5 => ⟨J', r', S3, en2, rfl, by rw [a1, z3, hs], a2, (l.trans l').trans a3, a4, a5, by rw [hrest]; exact p⟩
          | rt v S3 =>
            rw [h3] at p
            exact fun H' J' r' u a1 a2 a3 => p H' J' r' u a1 ((l.trans l').trans a2) a3
          | ex c fs en2 S3 =>
            rw [h3] at p
            exact fun st' H' J' r' d ws a1 a2 a3 a4 a5 a6 a7 => p st' H' J' r' d ws (by rw [a1, z3, hs]) a2 ((l.trans l').trans a3) a4 a5 a6 a7
        · exact p.elim
      · exact p.elim
  cases h : fi en S with
  | ok x S1 => rw [h] at p; exact fun H' J' r' it a b c => conv (p H' J' r' it a b c)
  | exc c fs S1 => rw [h] at p; exact p
  | stk => rw [h] at p; exact p
theorem st_par (o : XOk F T k O np G X W) (hcm : G.calm = true) {i j : Nat} {x y : Str} {px py pt p2 : Pos} {kt k2 : Nat} (hi : G.N[i]? = some x) (hj : G.N[j]? = some y) (hij : i ≠ j) (hx : G.sc.names.lookup x = some .local) (hy : G.sc.names.lookup y = some .local)
    {fa fb : Enm → Store → Res Val} (ha : PE X a (TT F W fa)) (hb : PE X b (TT F W fb)) (h1 : okX a = true) (h2 : okX b = true)
    (hw : swappedStores [.Tuple [.Name x px, .Name y py] kt pt] (.Tuple [a, b] k2 p2) X.env = pure (some [x, y])) :
    PS X (.Assign [.Tuple [.Name x px, .Name y py] kt pt] (.Tuple [a, b] k2 p2) pos) (TSr F W fun en S => (fa en S).to en fun v S1 => (fb en S1).to en fun u S2 => .nx ((en.set i (some v)).set j (some u)) S2) := by
  refine TS.len (fun D st H hn q => ?_) (ps_par (o.calm hcm) o.nd' (by rw [o.hN]; exact hi) (by rw [o.hN]; exact hj) hij (by rw [o.sc]; exact hx) (by rw [o.sc]; exact hy) (sa_cons h1 ha (sa_cons h2 hb sa_nil)) hw rfl)
  have hli : i < st.length := by rw [hn, o.hN]; exact (List.getElem?_eq_some_iff.mp hi).1
  have hlj : j < st.length := by rw [hn, o.hN]; exact (List.getElem?_eq_some_iff.mp hj).1
  have q2 : TSr F W (fun en S => ((fa en S).bind fun v S1 => (((fb en S1).bind fun u S2 => (Res.ok [] S2).bind fun xs S3 => Res.ok (u :: xs) S3)).bind fun xs S2 => Res.ok (v :: xs) S2).to en fun xs S2 => match xs with
      | [v, u] => .nx ((en.set i (some v)).set j (some u)) S2
      | _ => .stk) D st H := by
    obtain ⟨en, S, J, r, w, e, hl, p⟩ := q
    refine ⟨en, S, J, r, w, e, hl, ?_⟩
    dsimp only at p ⊢
    cases h : fa en S with
    | stk => rw [h] at p; exact p
    | exc c fs S1 => rw [h] at p; exact p
    | ok v S1 =>
      rw [h] at p
      simp only [Res.bind_ok, Res.to_ok] at p ⊢
      cases h : fb en S1 with
      | stk => rw [h] at p; exact p
      | exc c fs S1 => rw [h] at p; exact p
      | ok u S2 => rw [h] at p; exact p
  refine TAA.mono (fun vs H1 ⟨en, J1, r1, S1, xs, e1, hl, w1, t, p1⟩ => ?_) (TSr.ofA (g := fun en xs S2 => match xs with
      | [v, u] => .nx ((en.set i (some v)).set j (some u)) S2
      | _ => .stk) q2)
  split at p1
  · rename_i v u
    obtain ⟨v', u', rfl, k1, k2⟩ := reps2 t
    refine ⟨v', u', rfl, ?_⟩
    have e2 := e1.en.put k1 (i := i) (by rw [W.len]; omega)
    have e3 := e2.put k2 (i := j) (by rw [List.length_set, W.len]; omega)
    rw [W.set _ hli, W.set _ (by rw [List.length_set]; exact hlj)] at e3
    refine p1 _ H1 J1 r1 (by rw [List.length_set, List.length_set]) w1 Le.refl ⟨e3, o.ivc hcm _⟩ ?_
    rw [List.length_set, List.length_set, hl, W.len, W.len, List.length_set, List.length_set]
  · exact p1.elim
end
end GW
/-! Core 17: raise. -/
namespace GW
open PySem L2
section
variable {F : Fx} {X : Cx} {W : WS} {pins : List (Addr × Obj)} {s : Shared} {st : L2.St} {H J H1 J1 H0 J0 : Hp} {r r1 r0 : List Addr} {S S0 : Store} {en : Enm} {n : Nat} {D : Ends}
variable {a b c e tg : Expr} {es : List Expr} {pos : Pos}
variable {T : Tab} {k : Nat} {np : Nat → Nat} {G : Ck} {O : Om}
def Es.len : Es → Nat
  | .nil => 0
  | .cons _ es => es.len + 1
theorem evs_len : ∀ {es : Es} {en : Enm} {S S' : Store} {xs : List Val}, evs O es en S = .ok xs S' → xs.length = es.len
  | .nil, _, _, _, _, h => by
    unfold evs at h
    cases h
    rfl
  | .cons e es, en, S, _, _, h => by
    unfold evs at h
    cases h1 : evE O e en S with
    | stk => rw [h1] at h; cases h
    | exc c fs S1 => rw [h1] at h; cases h
    | ok x S1 =>
      rw [h1] at h
      simp only [Res.bind_ok] at h
      cases h2 : evs O es en S1 with
      | stk => rw [h2] at h; cases h
      | exc c fs S1 => rw [h2] at h; cases h
      | ok ys S2 =>
        rw [h2] at h
        simp only [Res.bind_ok] at h
        cases h
        exact congrArg (· + 1) (evs_len h2)
theorem heap_exc {H : Hp} {p dx C : Addr} {fs : List (Str × V)} (hp : H p = none) (hd : dx ≠ p) : upd (del (upd (upd (upd H p (exo p C none)) dx (exd dx fs)) p (exo p C (some dx))) p) dx (.xd fs) = upd H dx (.xd fs) := by
  funext q
  by_cases h1 : q = dx
  · subst h1; rw [upd_same, upd_same]
  · rw [upd_ne h1, upd_ne h1]
    by_cases h2 : q = p
    · subst h2; rw [del_same, hp]
    · rw [del_ne h2, upd_ne h2, upd_ne h1, upd_ne h2]
theorem st_rai (o : XOk F T k O np G X W) (hcm : G.calm = true) {c : Nat} {x : Str} {p pp : Pos} (hc : c ∈ T.ci) (hx : T.cl[c]? = some x) (hg : G.glo x = true) (hd : (x == ("__debug__" : Str)) = false) (hxs : okXs (e :: es) = true) {m : Nat} (hm : m ≤ 1000) (hlen : m = (F.cf c).length)
    {fs : Enm → Store → Res (List Val)} (hn : ∀ en S xs S', fs en S = .ok xs S' → xs.length = m) (ha : PA X (e :: es) (TAA F W fs)) : PS X (.Raise (some (.Call (.Name x p) (e :: es) [] pp)) none pos) (TSr F W fun en S => (fs en S).to en fun xs S1 => .ex c xs.reverse en S1) := by
  obtain ⟨h1, h2⟩ := Bool.and_eq_true_iff.mp hxs
  have i := o.ini c hc
  obtain ⟨fI, fd, ps, g1, g2, g3, g4⟩ := i.fn
  have mk := pmk_oex (p := p) (pos := pp) (dvs := []) i.oex g1 g2 g3 ((o.rm hcm).mono o.k2) g4 .nil (fun pins st H s e s' I ⟨_, _, _, _, _, _, _, _, _, _, _, _, z⟩ => z.elim) (o.glo hg) (o.cls c x hx) ha hd (okX_star h1 _ _) (okXs_any _ _ h2)
  refine TS.len (fun D st H hs q => ?_) (ps_raise (o.calm hcm) o.tk mk)
  have q2 := TSr.ofA (g := fun en xs S1 => .ex c xs.reverse en S1) q
  have q3 : TAA F W fs st H fun vs H1 => ∃ en J1 r1 S1 xs, xs.length = m ∧ EnW F W J1 r1 en st ∧ en.length = (W.st st).length ∧ Wo F H1 J1 r1 S1 ∧ Reps F J1 r1 xs vs ∧ PoL F W st.length H1 J1 r1 (.ex c xs.reverse en S1) D := by
    obtain ⟨en, S, J, r, w, e, hl, p⟩ := q
    refine ⟨en, S, J, r, w, e, ?_⟩
    dsimp only at p
    cases h : fs en S with
    | ok x S1 =>
      rw [h] at p
      exact fun H' J' r' v a b c => ⟨en, J', r', S1, x, hn _ _ _ _ h, e.le b, hl, a, c, p.le b⟩
    | exc c fs S1 =>
      rw [h] at p
      exact fun H' J' r' d ws a b c f => p st H' J' r' d ws rfl a b (e.le b) hl c f
    | stk => rw [h] at p; exact p
  show TAA F W fs st H _
  refine TAA.mono (fun vs H1 ⟨en, J1, r1, S1, xs, hxm, e1, hl, w1, t, p1⟩ => ?_) q3
  have hv : vs.length = m := by rw [t.length, hxm]
  refine ⟨by rw [hv]; exact hm, fun a ha0 => ⟨a, vs, by rw [List.append_nil], by rw [hv, hlen], upd_same, fun dx hdx hne => ⟨rfl, dx, (F.cf c).zip vs.reverse, upd_same, ?_, ?_, ?_⟩⟩⟩
  · rw [upd_ne hne, upd_same]
  · rw [upd_ne hne] at hdx; exact hdx
  · rw [heap_exc ha0 hne]
    rw [upd_ne hne] at hdx
    obtain ⟨w2, l2⟩ := w1.frz (o := .xd ((F.cf c).zip vs.reverse)) hdx
    exact p1 st _ _ r1 dx vs.reverse rfl w2 l2 (e1.le l2) hl upd_same (t.reverse.le l2)
end
end GW
/-! Core 18: try with several clauses, with names and without. -/
namespace GW
open PySem L2
def goneD (i : Nat) (D : Ends) : Ends := { nx := fun st' Hy => D.nx (st'.set i none) Hy, rt := D.rt, bk := fun st' Hy => D.bk (st'.set i none) Hy, ct := fun st' Hy => D.ct (st'.set i none) Hy }
structure Cls where
  c : Value
  io : Option Nat
  ts : Addr → Value → Option Addr → TS
def Cls.wish (q : Cls) (a : Addr) (cv : Value) (d : Option Addr) (D : Ends) (st : L2.St) (H : Hp) : Prop := match q.io with
  | none => q.ts a cv d D st H
  | some i => q.ts a cv d (goneD i D) (st.set i (some (.ref a))) H
def wAll (K : PySem.W.Frag) (Wo : WX) (D : Ends) : List Cls → WX
  | [] => Wo
  | q :: more => fun cv d st H => ∃ yes, PySem.W.exmOne K cv q.c = some yes ∧ (yes = true → ∀ a, H a = none → q.wish a cv d D st H) ∧ (yes = false → wAll K Wo D more cv d st H)
def nameOk (X : Cx) : Option Str → Option Nat → Prop
  | none, none => True
  | some y, some i => X.N[i]? = some y ∧ X.env.kindOf y = some .local
  | _, _ => False
inductive HdsA (X : Cx) : List ExceptHandler → List Cls → Prop
  | nil : HdsA X [] []
  | cons {x : Str} {on : Option Str} {q : Cls} {b1 : Stmt} {bs : List Stmt} {p1 p2 : Pos} {hs : List ExceptHandler} {l : List Cls} (nm : Names X x q.c) (no : nameOk X on q.io)
      (su : ∀ (a : Addr) (oe : Obj) (cv : Value) (d : Option Addr) (pn : List (Addr × Obj)), Zc cv d oe → (∃ vs, oe.data = .fields vs) → PSs (X.suite a ((a, oe) :: pn)) (b1 :: bs) (q.ts a cv d)) (more : HdsA X hs l) :
      HdsA X (.ExceptHandler (some (.Name x p1)) on (b1 :: bs) p2 :: hs) (q :: l)
section
variable {X : Cx} {body : List Stmt} {h1 : ExceptHandler} {hs : List ExceptHandler} {l : List Cls} {pos : Pos} {tb : WX → TS} {Wo : WX}
theorem look_name {x : Str} {c : Value} {a : Addr} {pn pins : List (Addr × Obj)} {st : L2.St} {H : Hp} {s : Shared} {p : Pos} {Q : Value → Shared → Prop} {E : Value → Shared → Prop} (nm : Names X x c) (I : Inv (X.suite a pn) pins st H s) (q : Q c s) :
    wpAny (model X.prog X.w) (X.A.mark (some (.ref a))) (eval (.Name x p) X.env) Q E s := by
  obtain ⟨g1, g2, g3 | ⟨g3, g4, g5⟩⟩ := nm
  · exact ld_glob (X := X.suite a pn) I g1 g3 q g2
  · exact ld_blt (X := X.suite a pn) I g1 g3 g4 q g5 g2
theorem go_clauses (ok : X.Ok) (hN : X.N.Nodup) (hst : X.stack = X.env :: X.outer) (hf : X.env.frame = some X.env.locals) (tk : Takes X Wo) {D : Ends} {a : Addr} {B : Heap} {sI s1 : Shared} {pins : List (Addr × Obj)} {st : L2.St} {H : Hp} {cv : Value} {d : Option Addr} {h3 : Heap}
    (J : Inv X pins st H sI) (nb : ∀ b o, sI.heap.get? b = some o → b ∉ frs X.stack → B.get? b = some o) (fl3 : HandSPX.FlyingZ B (X.env :: X.outer) a (Zc cv d) h3) (up3 : sI.heap.UpToSlots h3) (os : s1.os = sI.os) (ag : PyProof.Rows.AllBare s1.gens) (na : H a = none) (nL : a ≠ X.env.locals) (nF : a ∉ X.fs) :
    ∀ {hs : List ExceptHandler} {l : List Cls}, HdsA X hs l → wAll X.K Wo D l cv d st H → wpAny (model X.prog X.w) X.A (handleBy (.ref a) X.env hs) (SP X pins D) X.xe { s1 with heap := h3 } := by
  have J3 : Inv X pins st H { s1 with heap := h3 } := J.landed nb fl3.1 up3 os ag
  obtain ⟨oe3, vs3, he3, hz3, hd3⟩ := fl3.there
  have S3 := J3.suite he3 hd3 na nL nF
  intro hs l hk
  induction hk with
  | nil =>
    intro wsh
    refine wpAny_handleBy_nil ?_
    obtain ⟨z1, z2, z3, oe, vs, T, oT, ts2, he, hz, hd, hv1, hr⟩ := id fl3
    unfold PySem.passOn
    refine wpAny_bind (wpAny_field he hd hv1 ?_)
    rw [if_neg (show ¬ ((Value.ref T == Value.none) = true) by simp)]
    have last : wpAny (model X.prog X.w) X.A (setFlight (.ref a) X.env.frame) (fun _ s4 => wpAny (model X.prog X.w) X.A (throw (.ref a) : Sem Flow) (SP X pins D) X.xe s4) X.xe { s1 with heap := h3 } := by
      rw [hf]
      refine HandSPX.setFlight_upZ fl3 fun h4 hh4 up4 => wpAny_throw (tk _ _ ⟨a, B, sI, pins, st, H, cv, d, rfl, J, nb, up3.trans up4, ?_, na, os, ag, wsh⟩)
      exact .inr (.inr (by rw [hst]; exact hh4))
    first
      | exact wpAny_bind (wpAny_pure (wpAny_bind last))
      | exact wpAny_bind last
  | @cons x on q b1 bs p1 p2 hs2 l2 nm no su more ih =>
    intro wsh
    obtain ⟨yes, hy, hyes, hno⟩ := wsh
    refine wpAny_handleBy_cons (codeAny_handlers_test ?_) (by intro z; cases z)
    have LT : PySem.W.Looks (model X.prog X.w) h3 (typeOf (.ref a)) cv := fun A Q E s kk z => wpAny_typeOf_ref (kk _ _ he3) (by rw [hz3.1]; exact z)
    have LM := PySem.W.exm_one (M := model X.prog X.w) J3.kIn LT hy
    refine look_name (pn := (a, oe3) :: (X.pn ++ pins)) nm S3 (LM.here ?_)
    cases yes with
    | false => exact ih (hno rfl)
    | true =>
      have q0 := hyes rfl a na
      unfold Cls.wish at q0
      cases on with
      | none =>
        cases hio : q.io with
        | some i => rw [hio] at no; exact no.elim
        | none =>
          rw [hio] at q0
          refine codeAny_handlers_suite (HandSPX.lands_againZ fl3 fun h4 fl4 up4 => ?_)
          have J4 : Inv X pins st H { s1 with heap := h4 } := J.landed nb fl4.1 (up3.trans up4) os ag
          obtain ⟨oe4, vs4, he4, hz4, hd4⟩ := fl4.there
          have S4 := J4.suite he4 hd4 na nL nF
          refine wpAny_mono ((su a oe4 cv d (X.pn ++ pins) hz4 ⟨_, hd4⟩).run [] _ st H _ S4 q0) (fun f s6 hsp => ?_) (fun _ _ z => z.elim)
          match f, hsp with
          | .next, ⟨st6, H6, S6, q6⟩ => exact ⟨_, _, S6.unsuite ok, q6⟩
          | .brk, ⟨st6, H6, S6, q6⟩ => exact ⟨_, _, S6.unsuite ok, q6⟩
          | .cont, ⟨st6, H6, S6, q6⟩ => exact ⟨_, _, S6.unsuite ok, q6⟩
          | .ret u, ⟨v6, st6, H6, S6, r6, q6⟩ => exact ⟨_, _, _, S6.unsuite ok, r6, q6⟩
      | some y =>
        cases hio : q.io with
        | none => rw [hio] at no; exact no.elim
        | some i =>
          rw [hio] at q0 no
          obtain ⟨hi, hln⟩ := no
          refine codeAny_handlers_suite_as (HandSPX.lands_againZ fl3 fun h4 fl4 up4 => ?_)
          have J4 : Inv X pins st H { s1 with heap := h4 } := J.landed nb fl4.1 (up3.trans up4) os ag
          obtain ⟨oe4, vs4, he4, hz4, hd4⟩ := fl4.there
          have S4 := J4.suite he4 hd4 na nL nF
          refine store_ok (X := X.suite a ((a, oe4) :: (X.pn ++ pins))) (v := .ref a) S4 hN hi (.inl hln) rfl (fun s5 S5 => ?_) (.inr hln)
          refine wpAny_mono ((su a oe4 cv d (X.pn ++ pins) hz4 ⟨_, hd4⟩).run [] s5 _ H _ S5 q0) (fun f s6 hsp => ?_) (fun _ _ z => z.elim)
          have close : ∀ {st6 : L2.St} {H6 : Hp} {Q : Shared → Prop}, Inv (X.suite a ((a, oe4) :: (X.pn ++ pins))) [] st6 H6 s6 → (∀ s7, Inv X pins (st6.set i none) H6 s7 → Q s7) →
              wpAny (model X.prog X.w) X.A (do bindName X.env y .none; unbindBehindTheSuite X.env y p2) (fun _ s7 => Q s7) X.xe s6 := fun {st6 H6 Q} S6 hq => gone_ok (S6.unsuite ok) hN hi hln hq
          match f, hsp with
          | .next, ⟨st6, H6, S6, q6⟩ => exact close S6 fun s7 J7 => ⟨_, _, J7, q6⟩
          | .brk, ⟨st6, H6, S6, q6⟩ => exact close S6 fun s7 J7 => ⟨_, _, J7, q6⟩
          | .cont, ⟨st6, H6, S6, q6⟩ => exact close S6 fun s7 J7 => ⟨_, _, J7, q6⟩
          | .ret u, ⟨v6, st6, H6, S6, r6, q6⟩ => exact close S6 fun s7 J7 => ⟨_, _, _, J7, r6, q6⟩
theorem ps_tryA (hN : X.N.Nodup) (hst : X.stack = X.env :: X.outer) (hf : X.env.frame = some X.env.locals) (tk : Takes X Wo)
    (hb : ∀ (W : WX) (pn : List (Addr × Obj)) (xe : Value → Shared → Prop), Takes (X.tr pn xe) W → PassesOwn (model X.prog X.w) X.A X.env xe → PSs (X.tr pn xe) body (tb W)) (hh : HdsA X (h1 :: hs) l) :
    PS X (.Try body (h1 :: hs) [] [] pos) (fun D st H => tb (wAll X.K Wo D l) D st H) := by
  refine ⟨fun pins s st H D I h => wpAny_Try_except ?_⟩
  have ok := I.ok
  have hfr : X.A.frames = some (X.env :: X.outer) := by rw [ok.frames, hst]
  let xe : Value → Shared → Prop := fun e s1 => wpAny (model X.prog X.w) X.A (noteFrame e X.env) (fun _ s2 => wpAny (model X.prog X.w) X.A (setFlight e none) (fun _ s3 => wpAny (model X.prog X.w) X.A (handleBy e X.env (h1 :: hs)) (SP X pins D) X.xe s3) X.xe s2) X.xe s1
  have caught : Takes (X.tr (X.pn ++ pins) xe) (wAll X.K Wo D l) := fun u s1 ⟨a, B, sI, pins', st', H', cv, d, eu, J', nb, up, sky, na, os, ag, wsh⟩ => by
    subst eu
    have J : Inv X pins st' H' sI := J'.ofTry ok
    have sky' : Sky B (X.env :: X.outer) a (Zc cv d) X.env.locals s1.heap := by rw [← hst]; exact sky
    refine Sky.land Zc.steady hfr hf sky' fun h3 fl3 up3 => ?_
    obtain ⟨oe3, vs3, he3, hz3, hd3⟩ := fl3.there
    have nfr : a ∉ frs (X.env :: X.outer) := fun hm => by
      obtain ⟨_, o2, e2, hnf⟩ := fl3.2.2.1.mem hm
      rw [he3] at e2
      cases e2
      exact hnf _ hd3
    have nL : a ≠ X.env.locals := fun z => nfr (List.mem_filterMap.mpr ⟨X.env, List.mem_cons_self, by rw [hf, z]⟩)
    have nF : a ∉ X.fs := fun hm => by
      obtain ⟨e2, he2, q2⟩ := List.mem_filterMap.mp hm
      exact nfr (List.mem_filterMap.mpr ⟨e2, List.mem_cons_of_mem _ he2, q2⟩)
    exact go_clauses ok hN hst hf tk J nb fl3 (up.trans up3) os ag na nL nF hh wsh
  refine wpAny_mono ((hb (wAll X.K Wo D l) (X.pn ++ pins) xe caught PassesOwn.looking).run [] s st H D (I.toTry _) h) (fun f s1 hsp => ?_) (fun e s1 he => he)
  match f, hsp with
  | .next, ⟨st6, H6, S6, q6⟩ => exact wpAny_execs_nil ⟨st6, H6, S6.ofTry ok, q6⟩
  | .brk, ⟨st6, H6, S6, q6⟩ => exact ⟨st6, H6, S6.ofTry ok, q6⟩
  | .cont, ⟨st6, H6, S6, q6⟩ => exact ⟨st6, H6, S6.ofTry ok, q6⟩
  | .ret u, ⟨v6, st6, H6, S6, r6, q6⟩ => exact ⟨v6, st6, H6, S6.ofTry ok, r6, q6⟩
end
end GW
/-! Core 19: try; the check of statements. -/
namespace GW
open PySem L2
section
variable {F : Fx} {X : Cx} {W : WS} {pins : List (Addr × Obj)} {s : Shared} {st : L2.St} {H J H1 J1 H0 J0 : Hp} {r r1 r0 : List Addr} {S S0 : Store} {en : Enm} {n : Nat} {D : Ends}
variable {a b c e tg : Expr} {es : List Expr} {pos : Pos}
variable {T : Tab} {k : Nat} {np : Nat → Nat} {G : Ck} {O : Om}
def Ck.off (G : Ck) (x : Option (Nat × Nat)) : Ck := { G with calm := false, top := false, ex := x }
def Wn : WS := ⟨fun _ _ _ _ => False, [], fun _ => True⟩
def Wx (i : Nat) (a dd : Addr) : WS := ⟨fun _ _ _ _ => False, [.ref dd], fun st => st[i]? = some (some (.ref a))⟩
theorem takes_no {X : Cx} : Takes X (fun _ _ _ _ => False) := fun u s' ⟨_, _, _, _, _, _, _, _, _, _, _, _, _, _, _, _, z⟩ => z.elim
theorem XOk.tr (o : XOk F T k O np G X W) (pn : List (Addr × Obj)) (xe : Value → Shared → Prop) {W' : WX} (hsd : W.sd = []) (hiv : ∀ st, W.iv st) (htop : G.top = true) (tk : Takes (X.tr pn xe) W') (po : PassesOwn (model X.prog X.w) X.A X.env xe) (hex : G.ex = none) :
    XOk F T k O np G (X.tr pn xe) ⟨W', [], fun _ => True⟩ where
  sx := ⟨o.sx.hK, o.sx.un, o.sx.gd, o.sx.sm⟩
  calm := o.calm
  hN := o.hN
  nd := o.nd
  sc := o.sc
  fn := o.fn
  tk := tk
  rm := o.rm
  sd := fun _ => rfl
  po := fun _ => po
  hs := o.hs
  ft := o.ft
  iv := fun _ _ _ _ _ => trivial
  ivc := fun _ _ => trivial
  fns := o.fns
  cls := o.cls
  ini := o.ini
  sub := o.sub
  nc := o.nc
  cf := o.cf
  xat := fun _ _ z => by rw [hex] at z; cases z
  xis := fun _ _ z => by rw [hex] at z; cases z
  srf := o.srf
  cil := o.cil
  k2 := o.k2
  bl := o.bl
  cst := o.cst
  ln := o.ln
theorem XOk.suiteN (o : XOk F T k O np G X W) (a : Addr) (pn : List (Addr × Obj)) : XOk F T k O np (G.off none) (X.suite a pn) Wn where
  sx := ⟨o.sx.hK, o.sx.un, o.sx.gd, o.sx.sm⟩
  calm := fun z => nomatch z
  hN := o.hN
  nd := o.nd
  sc := o.sc
  fn := o.fn
  tk := takes_no
  rm := fun z => nomatch z
  sd := fun z => nomatch z
  po := fun z => nomatch z
  hs := fun z => nomatch z
  ft := fun z => nomatch z
  iv := fun _ _ _ _ _ => trivial
  ivc := fun _ _ => trivial
  fns := o.fns
  cls := o.cls
  ini := o.ini
  sub := o.sub
  nc := o.nc
  cf := o.cf
  xat := fun _ _ z => nomatch z
  xis := fun _ _ z => nomatch z
  srf := o.srf
  cil := o.cil
  k2 := o.k2
  bl := o.bl
  cst := o.cst
  ln := o.ln
theorem XOk.suiteX (o : XOk F T k O np G X W) {i c : Nat} {a dd : Addr} {oe : Obj} {pn : List (Addr × Obj)} (hc : c ∈ T.ci) (hz : Zc (.ref (F.ca c)) (some dd) oe) (hf : ∃ vs, oe.data = .fields vs) (hi : i < G.N.length) : XOk F T k O np (G.off (some (i, c))) (X.suite a ((a, oe) :: pn)) (Wx i a dd) where
  sx := ⟨o.sx.hK, o.sx.un, o.sx.gd, o.sx.sm⟩
  calm := fun z => nomatch z
  hN := o.hN
  nd := o.nd
  sc := o.sc
  fn := o.fn
  tk := takes_no
  rm := fun z => nomatch z
  sd := fun z => nomatch z
  po := fun z => nomatch z
  hs := fun z => nomatch z
  ft := fun z => nomatch z
  iv := fun st j v hne h => by
    show (st.set j v)[i]? = _
    rw [List.getElem?_set_ne (fun z => hne (by rw [z]; rfl))]
    exact h
  ivc := fun z => nomatch z
  fns := o.fns
  cls := o.cls
  ini := o.ini
  sub := o.sub
  nc := o.nc
  cf := o.cf
  srf := o.srf
  cil := o.cil
  xis := fun i' c' z => by
    cases z
    exact ⟨o.cil c hc, a, dd, rfl, fun _ h => h, call_isX (o.ini c hc).xfc (o.ini c hc).xcc hz hf, call_isXT (o.ini c hc).xfc (o.ini c hc).xcc hz hf⟩
  xat := fun i' c' z => by
    cases z
    refine ⟨dd, rfl, fun x f pos pos2 hN hv h1 h2 hm => ?_⟩
    refine ⟨fun pins s st H Q I ⟨q1, fs, v, q2, q3, q4⟩ => ?_⟩
    by_cases hxi : ∃ j, X.N[j]? = some x ∧ j = i
    · obtain ⟨j, hj, rfl⟩ := hxi
      exact (pe_xf (o.ini c hc).xfc ((o.ini c hc).fld f hm) hz hf (pe_var (X := X.suite a ((a, oe) :: pn)) (pos := pos2) hj hv h1 h2)).run pins s st H Q I ⟨.ref a, q1, rfl, rfl, dd, fs, v, rfl, q2, q3, q4⟩
    · exact absurd ⟨i, hN, rfl⟩ hxi
  k2 := o.k2
  bl := o.bl
  cst := o.cst
  ln := o.ln
def mkCls (F : Fx) (O : Om) : Hs → List Cls
  | .nil => []
  | .cons c io b hs => ⟨.ref (F.ca c), io, fun a cv d D st H => match io with
    | none => TSr F Wn (fun en S => exS O b en S) D st H
    | some i => ∃ dd, cv = .ref (F.ca c) ∧ d = some dd ∧ TSr F (Wx i a dd) (fun en S => exS O b en S) D st H⟩ :: mkCls F O hs
theorem set_len {α : Type} (l : List α) (i : Nat) (x : α) : (l.set i x).length = l.length := List.length_set ..
theorem en_exc {c i dd : Nat} {a : Addr} {fs : List Val} {ws : List V} (e : En F J r en st) (hl : en.length = st.length) (hi : i < st.length) (hd : J dd = some (.xd ((F.cf c).zip ws))) (t : Reps F J r fs ws) :
    EnW F (Wx i a dd) J r (en.set i none ++ [some (.exc c fs)]) (st.set i (some (.ref a))) := by
  refine ⟨fun j x h => ?_, List.getElem?_set_self hi⟩
  by_cases hj : j < en.length
  · rw [List.getElem?_append_left (by rw [set_len]; exact hj)] at h
    by_cases hij : i = j
    · subst hij
      rw [List.getElem?_set_self hj] at h
      cases h
    · rw [List.getElem?_set_ne hij] at h
      obtain ⟨v, g1, g2⟩ := e j x h
      refine ⟨v, ?_, g2⟩
      unfold WS.st
      rw [List.getElem?_append_left (by rw [set_len]; omega), List.getElem?_set_ne hij]
      exact g1
  · rw [List.getElem?_append_right (by rw [set_len]; omega), set_len] at h
    have hz : j - en.length = 0 := by
      have := (List.getElem?_eq_some_iff.mp h).1
      simp at this
      omega
    rw [hz] at h
    cases h
    refine ⟨.ref dd, ?_, .exc hd t⟩
    unfold WS.st
    rw [List.getElem?_append_right (by rw [set_len]; omega), set_len]
    have : j - st.length = 0 := by omega
    rw [this]
    rfl
theorem PoL.out {i dd : Nat} {a : Addr} {x : Fl} (hsd : W.sd = []) (hiv : ∀ st, W.iv st) (p : PoL F W n H J r (x.out n i) D) : PoL F (Wx i a dd) n H J r x (goneD i D) := by
  cases x with
  | nx en' S' =>
    intro st' H' J' r' a1 a2 a3 a4 a5
    refine p (st'.set i none) H' J' r' (by rw [set_len]; exact a1) a2 a3 ⟨?_, hiv _⟩ ?_
    · have ln : en'.length = n + 1 := by rw [a5, WS.len, a1]; rfl
      intro j y h
      have hst : W.st (st'.set i none) = st'.set i none := by rw [WS.st, hsd]; simp
      rw [hst]
      by_cases hij : i = j
      · subst hij
        by_cases hin : i < (en'.take n).length
        · rw [List.getElem?_set_self hin] at h; cases h
        · rw [List.getElem?_eq_none (by rw [set_len]; omega)] at h; cases h
      · rw [List.getElem?_set_ne hij] at h ⊢
        rw [List.getElem?_take] at h
        split at h
        · rename_i hjn
          obtain ⟨v, g1, g2⟩ := a4.en j y h
          unfold WS.st at g1
          rw [List.getElem?_append_left (by omega)] at g1
          exact ⟨v, g1, g2⟩
        · cases h
    · rw [set_len, List.length_take, a5, WS.len, WS.len, set_len, a1, hsd]
      simp
  | rt v S' => exact p
  | ex c fs en' S' => exact p.elim
  | stk => exact p.elim
theorem PoL.noX {x : Fl} (hsd : W.sd = []) (hiv : ∀ st, W.iv st) (p : PoL F W n H J r x.noX D) : PoL F Wn n H J r x D := by
  have conv : ∀ {J r en st}, EnW F Wn J r en st → EnW F W J r en st := fun {J r en st} e => ⟨by
    have h1 : W.st st = st := by rw [WS.st, hsd]; simp
    have h2 : Wn.st st = st := by simp [WS.st, Wn]
    rw [h1, ← h2]
    exact e.en, hiv _⟩
  cases x with
  | nx en' S' => exact fun st' H' J' r' a1 a2 a3 a4 a5 => p st' H' J' r' a1 a2 a3 (conv a4) (by rw [a5, WS.len, WS.len, hsd]; rfl)
  | rt v S' => exact p
  | ex c fs en' S' => exact p.elim
  | stk => exact p.elim
def hsC : Hs → List Nat
  | .nil => []
  | .cons c _ _ hs => c :: hsC hs
def hsI : Hs → List Nat
  | .nil => []
  | .cons _ (some i) _ hs => i :: hsI hs
  | .cons _ none _ hs => hsI hs
theorem wAll_ok (o : XOk F T k O np G X W) (hcm : G.calm = true) {c : Nat} {fs : List Val} {ws : List V} {dd : Addr} (hc : c < O.nc) (hn : st.length = G.N.length) (w : Wo F H J r S) (e : EnW F W J r en st) (hl : en.length = (W.st st).length) (hd : J dd = some (.xd ((F.cf c).zip ws))) (t : Reps F J r fs ws) :
    ∀ hs : Hs, (∀ c', c' ∈ hsC hs → c' < T.cl.length) → (∀ i, i ∈ hsI hs → i < G.N.length) → PoL F W st.length H J r (exH O hs c fs en S) D → wAll X.K W.w D (mkCls F O hs) (.ref (F.ca c)) (some dd) st H
  | .nil, _, _, p => by
    unfold exH at p
    exact p st H J r dd ws rfl w Le.refl e hl hd t
  | .cons c' io b hs, h1, h2, p => by
    have hsd := o.sd hcm
    have hiv := o.ivc hcm
    have hst : W.st st = st := by rw [WS.st, hsd]; simp
    have e0 : En F J r en st := by rw [← hst]; exact e.en
    have hl0 : en.length = st.length := by rw [hl, hst]
    unfold exH at p
    refine ⟨O.sub c c', o.sub c c' (by rw [← o.nc]; exact hc) (h1 c' (List.mem_cons_self ..)), fun hy a ha => ?_, fun hn' => ?_⟩
    · rw [if_pos hy] at p
      cases io with
      | none =>
        refine ⟨en, S, J, r, w, ⟨?_, trivial⟩, ?_, PoL.noX hsd hiv p⟩
        · rw [show Wn.st st = st by simp [WS.st, Wn]]; exact e0
        · rw [hl0, WS.len]; rfl
      | some i =>
        dsimp only at p
        split at p
        · rename_i hcc
          subst hcc
          have hi : i < st.length := by rw [hn]; exact h2 i (by simp [hsI])
          refine ⟨dd, rfl, rfl, _, S, J, r, w, en_exc (a := a) e0 hl0 hi hd t, ?_, ?_⟩
          · rw [List.length_append, set_len, hl0, WS.len, set_len]; rfl
          · rw [hl0] at p
            rw [set_len]
            exact PoL.out hsd hiv p
        · exact p.elim
    · rw [if_neg (by rw [hn']; decide)] at p
      exact wAll_ok o hcm hc hn w e hl hd t hs (fun c h => h1 c (List.mem_cons_of_mem _ h)) (fun i h => h2 i (by
        cases io with
        | none => exact h
        | some j => exact List.mem_cons_of_mem _ h)) p
end
end GW
/-! Core 20: the check of statements. -/
namespace GW
open PySem L2
def isFnS (sc : Scope) : Bool := match sc.kind with
  | .function => true
  | _ => false
def isLoc (sc : Scope) (x : Str) : Bool := match sc.names.lookup x with
  | some .local => true
  | _ => false
theorem isLoc_ok {sc : Scope} {x : Str} (h : isLoc sc x = true) : sc.names.lookup x = some .local := by
  unfold isLoc at h
  split at h
  · assumption
  · cases h
theorem isFnS_ok {sc : Scope} (h : isFnS sc = true) : sc.kind = .function := by
  unfold isFnS at h
  split at h
  · assumption
  · cases h
def swB (sc : Scope) (y : Str) (p : Pos) (scope : Scope) (p2 : Pos) : Bool := isLoc sc y && (p.line == p2.line) && !(scope.names.any fun (n, k) => n == y && (k == .local || k == .cell))
theorem sw_lc {env : Env} {y : Str} {p p2 : Pos} {elt : Expr} {gs : List Comprehension} {scope : Scope} {l : Nat} (hk : isFnS env.scope = true) :
    swapsWith (.ListComp elt gs scope p2) (some (.Name y p)) l env = pure (swB env.scope y p scope p2) := by
  have hk' := isFnS_ok hk
  have hb : env.blockKind = .function := by unfold Env.blockKind; rw [hk']; rfl
  unfold swapsWith swB
  simp only [hb, Expr.pos]
  have e : (env.kindOf y == some NameKind.local) = isLoc env.scope y := by
    unfold isLoc Env.kindOf
    cases env.scope.names.lookup y with
    | none => rfl
    | some k => cases k <;> rfl
  rw [e]
  rfl
def notTup (x : Expr) : Bool := match x with
  | .Tuple .. => false
  | _ => true
theorem sw_stores {x : Expr} (h : notTup x = true) (es : List Expr) (kk : Nat) (p : Pos) (env : Env) : swappedStores [.Tuple es kk p] x env = pure none := by
  cases x <;> first | rfl | (cases h; done)
theorem sw_sub (x l r : Expr) (p : Pos) (n : Nat) (env : Env) : swapsWith x (some (.Subscript l r p)) n env = pure false := by
  cases x <;> rfl
theorem sw_sole {x : Expr} (h : okSw x = true) (t : Expr) (l : Nat) (env : Env) : swapsWithSole [t] x l env = pure false := okSw_no h _ _ _
theorem sw_par {env : Env} {x y : Str} {px py pt p2 : Pos} {kt k2 : Nat} {a b : Expr} (hk : isFnS env.scope = true) (hx : isLoc env.scope x = true) (hy : isLoc env.scope y = true) (hl : (py.line == px.line) = true) (hne : x ≠ y) (ha : okX a = true) (hb : okX b = true)
    (h1 : ([a, b].all (foldedForSure 8)) = false) (h2 : ([a, b].all (constantsAlone 8)) = false) : swappedStores [.Tuple [.Name x px, .Name y py] kt pt] (.Tuple [a, b] k2 p2) env = pure (some [x, y]) := by
  have hk' := isFnS_ok hk
  have hbk : env.blockKind = .function := by unfold Env.blockKind; rw [hk']; rfl
  have ex : env.kindOf x = some .local := isLoc_ok hx
  have ey : env.kindOf y = some .local := isLoc_ok hy
  have hs : ([a, b].any fun | .Starred .. => true | _ => false) = false := by
    cases a <;> first | (cases ha; done) | (cases b <;> first | rfl | (cases hb; done))
  unfold swappedStores
  have hd : [x, y].eraseDups = [x, y] := by
    rw [List.eraseDups_cons]
    have : ([y].filter fun b => !b == x) = [y] := by simp [Ne.symm hne]
    rw [this]
    rfl
  simp only [hbk, List.length_cons, List.length_nil, hs, List.head?_cons, Option.map_some, Option.getD_some, Expr.pos, List.filterMap_cons, List.filterMap_nil, ex, ey, hl]
  simp [hd, h1, h2]
  intro h
  rcases h with h | h
  · cases a <;> first | (cases ha; done) | (cases h; done)
  · cases b <;> first | (cases hb; done) | (cases h; done)
/-! ### the check -/
def swNo (G : Ck) (y : Str) (p : Pos) (v : Expr) : Bool := match v with
  | .ListComp _ _ scope p2 => isFnS G.sc && !(swB G.sc y p scope p2)
  | _ => okSw v
mutual
def ckT (T : Tab) : Ck → C → Stmt → Bool
  | G, .set i e, x => (match x with
    | .Assign [.Name y p] v _ => G.loc i y && ckE T G e v && (swNo G y p v || (match e, v with
      | .lc b t it cs e', .ListComp elt [⟨tg, iter, ifs, 0⟩] scope p2 => isFnS G.sc && swB G.sc y p scope p2
      | _, _ => false))
    | _ => false)
  | G, .tset is e, x => (match x with
    | .Assign [.Tuple es _ _] v _ => okGs G is es && ckE T G e v && notTup v && okSw v && G.calm
    | _ => false)
  | G, .par i j a b, x => (match x with
    | .Assign [.Tuple [.Name y p, .Name y' p'] _ _] (.Tuple [l, r] _ _) _ => decide (G.N[i]? = some y) && decide (G.N[j]? = some y') && decide (i ≠ j) && decide (y ≠ y') && isLoc G.sc y && isLoc G.sc y' && isFnS G.sc && (p'.line == p.line) && okX l && okX r &&
        !([l, r].all (foldedForSure 8)) && !([l, r].all (constantsAlone 8)) && ckE T G a l && ckE T G b r && G.calm
    | _ => false)
  | G, .sset a i e, x => (match x with
    | .Assign [.Subscript l r _] v _ => ckE T G e v && ckE T G a l && ckE T G i r && okX r
    | _ => false)
  | G, .exp e, x => (match x with
    | .Expr v _ => ckE T G e v && okSw v
    | _ => false)
  | G, .ret e, x => (match x with
    | .Return (some v) _ => ckE T G e v
    | _ => false)
  | G, .retN, x => (match x with
    | .Return none _ => true
    | _ => false)
  | G, .ife c a b, x => (match x with
    | .If t xs ys _ => ckE T G c t && okT t && ckB T G a xs && ckB T G b ys
    | _ => false)
  | G, .whl c b, x => (match x with
    | .While t xs [] _ => ckE T G c t && okT t && ckB T G b xs && G.top
    | _ => false)
  | G, .forr t it b, x => (match x with
    | .For tg iter xs [] _ => okTg G t tg && okX iter && ckI T G it tg iter && ckB T G b xs && G.top && G.calm
    | _ => false)
  | G, .rai c es, x => (match x with
    | .Raise (some (.Call (.Name m _) (y :: ys) [] _)) none _ => decide (c ∈ T.ci) && decide (T.cl[c]? = some m) && G.glo m && !(m == ("__debug__" : Str)) && okXs (y :: ys) && decide (es.len ≤ 1000) && decide (es.len = (T.cf.getD c []).length) && ckS T G es (y :: ys) && G.calm
    | _ => false)
  | G, .tri b hs, x => (match x with
    | .Try xs (h :: hds) [] [] _ => ckB T G b xs && ckH T G hs (h :: hds) && G.top && G.calm && (match G.ex with
      | none => true
      | _ => false)
    | _ => false)
  | G, .pas, x => (match x with
    | .Pass _ => true
    | _ => false)
def ckB (T : Tab) : Ck → Cs → List Stmt → Bool
  | G, .nil, xs => (match xs with
    | [] => true
    | _ => false)
  | G, .cons c cs, xs => (match xs with
    | x :: xs => ckT T G c x && ckB T G cs xs
    | _ => false)
def ckH (T : Tab) : Ck → Hs → List ExceptHandler → Bool
  | G, .nil, xs => (match xs with
    | [] => true
    | _ => false)
  | G, .cons c io b hs, xs => (match xs with
    | .ExceptHandler (some (.Name m _)) on (y :: ys) _ :: xs => decide (T.cl[c]? = some m) && G.glo m && !(m == ("__debug__" : Str)) && (match on, io with
      | none, none => ckB T (G.off none) b (y :: ys)
      | some z, some i => decide (G.N[i]? = some z) && isLoc G.sc z && decide (c ∈ T.ci) && ckB T (G.off (some (i, c))) b (y :: ys)
      | _, _ => false) && ckH T G hs xs
    | _ => false)
end
end GW
/-! Core 21: the check is right (statements). -/
namespace GW
open PySem L2
section
variable {F : Fx} {T : Tab} {k : Nat} {np : Nat → Nat} {O : Om}
abbrev OkT (F : Fx) (T : Tab) (k : Nat) (np : Nat → Nat) (O : Om) (c : C) : Prop := ∀ {G : Ck} {X : Cx} {W : WS} {x : Stmt}, XOk F T k O np G X W → ckT T G c x = true → PS X x (TSr F W fun en S => exC O c en S)
abbrev OkB (F : Fx) (T : Tab) (k : Nat) (np : Nat → Nat) (O : Om) (cs : Cs) : Prop := ∀ {G : Ck} {X : Cx} {W : WS} {xs : List Stmt}, XOk F T k O np G X W → ckB T G cs xs = true → PSs X xs (TSr F W fun en S => exS O cs en S)
abbrev OkH (F : Fx) (T : Tab) (k : Nat) (np : Nat → Nat) (O : Om) (hs : Hs) : Prop := ∀ {G : Ck} {X : Cx} {W : WS} {xs : List ExceptHandler}, XOk F T k O np G X W → ckH T G hs xs = true → HdsA X xs (mkCls F O hs) ∧ (∀ c', c' ∈ hsC hs → c' < T.cl.length) ∧ ∀ i, i ∈ hsI hs → i < G.N.length
theorem swNo_ok {G : Ck} {X : Cx} {W : WS} (o : XOk F T k O np G X W) {y : Str} {p : Pos} {v : Expr} {l : Nat} (h : swNo G y p v = true) : swapsWith v (some (.Name y p)) l X.env = pure false := by
  unfold swNo at h
  split at h
  · simp only [Bool.and_eq_true, Bool.not_eq_true'] at h
    rw [sw_lc (by rw [o.sc]; exact h.1), o.sc, h.2]
  · exact okSw_no h _ _ _
theorem st_setLc {G : Ck} {X : Cx} {W : WS} {spos p2 py : Pos} {y : Str} {tg : Expr} (o : XOk F T k O np G X W) (hcm : G.calm = true) (bb : Bool) (t : Tg) {elt iter : Expr} {ifs : List Expr} {scope : Scope} {own : List (Str × Nat)} {fi : Enm → Store → Res Wk} {fc : Enm → Store → Res Bool} {fe : Enm → Store → Res Val} {i : Nat}
    (hy : G.loc i y = true) (hf : isFnS G.sc = true) (hs : swB G.sc y py scope p2 = true) (hb : blkC G.N G.sc scope own = true) (hw : (((own.map (·.2)).all fun i => t.ixs.contains i) && (t.ixs.all fun i => (own.map (·.2)).contains i)) = true) (hx : okX iter = true) (htg : okTg (G.blk scope) t tg = true)
    (hi : PI X tg iter (TW F W fi)) (hc : ∀ X', XOk F T k O np (G.blk scope) X' W0 → PTs X' ifs (TB F W0 fc)) (he : ∀ X', XOk F T k O np (G.blk scope) X' W0 → PE X' elt (TT F W0 fe)) :
    PS X (.Assign [.Name y py] (.ListComp elt [⟨tg, iter, ifs, 0⟩] scope p2) spos) (TSr F W fun en S => ((fi en S).bind fun wk S1 => (lcF wk.cs wk.xs t fc fe en wk.its [] S1).bind fun ys S2 => mkL bb ys S2).to en fun v S1 => .nx (en.set i (some v)) S1) := by
  obtain ⟨h1, h2⟩ := blkC_ws hw
  have ok : BlkOk X.N X.env.scope scope own := by rw [o.hN, o.sc]; exact blkOk_by hb
  have tgo := fun s H C cl fp => okTg_ok (o.blk s H scope C cl fp) hcm htg
  obtain ⟨⟨q1, q2, q3⟩, q4⟩ := o.loc' hy
  have hl : X.env.scope.names.lookup y = some .local := by
    rw [o.sc]
    unfold swB at hs
    simp only [Bool.and_eq_true] at hs
    exact isLoc_ok hs.1.1
  have sw : swapsWith (.ListComp elt [⟨tg, iter, ifs, 0⟩] scope p2) (some (.Name y py)) spos.line X.env = pure true := by rw [sw_lc (by rw [o.sc]; exact hf), o.sc, hs]
  refine TS.len (fun D st H hn q => ?_) (ps_setLc (g := gTg X.K t) (o.calm hcm) o.nd' q1 hl sw hi ok (fun s H C cl fp => (tgo s H C cl fp).1) (fun s H C cl fp => hc _ (o.blk s H scope C cl fp)) (fun s H C cl fp => he _ (o.blk s H scope C cl fp)) (okX_fold hx _))
  have hlt : i < st.length := by rw [hn]; exact (List.getElem?_eq_some_iff.mp q1).1
  exact tlc_ok o.sx.hK (o.sd hcm) bb t h1 h2 (fun i hi => by rw [hn, o.hN]; exact (tgo X.s_0 (fun _ => none) 0 [] []).2 i hi) (TT.mono (fun v H1 ⟨en, J1, r1, S1, x, e1, hl, w1, kx, p1⟩ => PoL.put o w1 e1 hl kx hlt q4 p1) (TSr.ofE (g := fun en v S1 => .nx (en.set i (some v)) S1) q))
theorem ok_set (hO : O.nf = T.fn.length) (i : Nat) (e : E) : OkT F T k np O (.set i e) := fun {G X W x} xo h => by
  unfold ckT at h
  split at h
  · simp only [Bool.and_eq_true, Bool.or_eq_true] at h
    obtain ⟨⟨h1, h2⟩, h3 | h3⟩ := h
    · exact st_set xo h1 (okE hO e xo h2).pe (swNo_ok xo h3)
    · split at h3
      · rename_i b t it cs e' elt tg iter ifs scope p2
        unfold ckE at h2
        simp only [Bool.and_eq_true] at h2 h3
        obtain ⟨⟨⟨⟨⟨⟨⟨g1, g2⟩, g3⟩, g4⟩, g5⟩, g6⟩, g7⟩, g8⟩ := h2
        exact st_setLc xo g1 b t h1 h3.1 h3.2 g2 (by unfold okWs at g3; simpa using g3) g4 g5 (okI hO it xo g6) (fun X' xo' => okC hO cs xo' g7) fun X' xo' => (okE hO e' xo' g8).pe
      · cases h3
  · cases h
theorem ok_tset (hO : O.nf = T.fn.length) (is : List Nat) (e : E) : OkT F T k np O (.tset is e) := fun {G X W x} xo h => by
  unfold ckT at h
  split at h
  · simp only [Bool.and_eq_true] at h
    obtain ⟨⟨⟨⟨h1, h2⟩, h3⟩, h4⟩, h5⟩ := h
    exact st_tset xo h5 h1 (okE hO e xo h2).pe (sw_sole h4 _ _ _) (sw_stores h3 _ _ _ _)
  · cases h
theorem ok_par (hO : O.nf = T.fn.length) (i j : Nat) (a b : E) : OkT F T k np O (.par i j a b) := fun {G X W x} xo h => by
  unfold ckT at h
  split at h
  · simp only [Bool.and_eq_true, decide_eq_true_eq, Bool.not_eq_true'] at h
    obtain ⟨⟨⟨⟨⟨⟨⟨⟨⟨⟨⟨⟨⟨⟨h1, h2⟩, h3⟩, h4⟩, h5⟩, h6⟩, h7⟩, h8⟩, h9⟩, h10⟩, h11⟩, h12⟩, h13⟩, h14⟩, h15⟩ := h
    exact st_par xo h15 h1 h2 h3 (isLoc_ok h5) (isLoc_ok h6) (okE hO a xo h13).pe (okE hO b xo h14).pe h9 h10 (sw_par (by rw [xo.sc]; exact h7) (by rw [xo.sc]; exact h5) (by rw [xo.sc]; exact h6) h8 h4 h9 h10 h11 h12)
  · cases h
theorem ok_sset (hO : O.nf = T.fn.length) (a i e : E) : OkT F T k np O (.sset a i e) := fun {G X W x} xo h => by
  unfold ckT at h
  split at h
  · simp only [Bool.and_eq_true] at h
    obtain ⟨⟨⟨h1, h2⟩, h3⟩, h4⟩ := h
    exact st_sset xo (okE hO e xo h1).pe (okE hO a xo h2).pe (okE hO i xo h3).pe h4 (sw_sub _ _ _ _ _ _)
  · cases h
theorem ok_exp (hO : O.nf = T.fn.length) (e : E) : OkT F T k np O (.exp e) := fun {G X W x} xo h => by
  unfold ckT at h
  split at h
  · simp only [Bool.and_eq_true] at h
    exact st_exp (okE hO e xo h.1).pe (okSw_no h.2 _ _ _)
  · cases h
theorem ok_ret (hO : O.nf = T.fn.length) (e : E) : OkT F T k np O (.ret e) := fun {G X W x} xo h => by
  unfold ckT at h
  split at h
  · exact st_ret (okE hO e xo h).pe
  · cases h
theorem ok_retN : OkT F T k np O .retN := fun {G X W x} xo h => by
  unfold ckT at h
  split at h
  · exact st_retN
  · cases h
theorem ok_pas : OkT F T k np O .pas := fun {G X W x} xo h => by
  unfold ckT at h
  split at h
  · exact st_pas
  · cases h
theorem ok_sif (hO : O.nf = T.fn.length) (c : E) {a b : Cs} (ha : OkB F T k np O a) (hb : OkB F T k np O b) : OkT F T k np O (.ife c a b) := fun {G X W x} xo h => by
  unfold ckT at h
  split at h
  · simp only [Bool.and_eq_true] at h
    obtain ⟨⟨⟨h1, h2⟩, h3⟩, h4⟩ := h
    exact st_if ((okE hO c xo h1).pt h2) (ha xo h3) (hb xo h4)
  · cases h
theorem ok_whl (hO : O.nf = T.fn.length) (c : E) {b : Cs} (hb : OkB F T k np O b) : OkT F T k np O (.whl c b) := fun {G X W x} xo h => by
  unfold ckT at h
  split at h
  · simp only [Bool.and_eq_true] at h
    obtain ⟨⟨⟨h1, h2⟩, h3⟩, h4⟩ := h
    exact st_whl xo h4 O.fu ((okE hO c xo h1).pt h2) (hb xo h3)
  · cases h
theorem ok_for (hO : O.nf = T.fn.length) (t : Tg) (it : It) {b : Cs} (hb : OkB F T k np O b) : OkT F T k np O (.forr t it b) := fun {G X W x} xo h => by
  unfold ckT at h
  split at h
  · simp only [Bool.and_eq_true] at h
    obtain ⟨⟨⟨⟨⟨h1, h2⟩, h3⟩, h4⟩, h5⟩, h6⟩ := h
    exact st_for xo h6 h5 t h1 h2 (okI hO it xo h3) (hb xo h4)
  · cases h
theorem ok_rai (hO : O.nf = T.fn.length) (c : Nat) (es : Es) : OkT F T k np O (.rai c es) := fun {G X W x} xo h => by
  unfold ckT at h
  split at h
  · simp only [Bool.and_eq_true, decide_eq_true_eq, Bool.not_eq_true'] at h
    obtain ⟨⟨⟨⟨⟨⟨⟨⟨h1, h2⟩, h3⟩, h4⟩, h5⟩, h6⟩, h7⟩, h8⟩, h9⟩ := h
    exact st_rai xo h9 h1 h2 h3 h4 (by simpa using h5) h6 (by rw [xo.cf]; exact h7) (fun en S xs S' z => evs_len z) (okS hO es xo h8)
  · cases h
theorem ok_tri {b : Cs} {hs : Hs} (hb : OkB F T k np O b) (hh : OkH F T k np O hs) : OkT F T k np O (.tri b hs) := fun {G X W x} xo h => by
  unfold ckT at h
  split at h
  · simp only [Bool.and_eq_true] at h
    obtain ⟨⟨⟨⟨h1, h2⟩, h3⟩, h4⟩, h5⟩ := h
    have hex : G.ex = none := by
      split at h5
      · assumption
      · cases h5
    obtain ⟨q1, q2, q3⟩ := hh xo h2
    obtain ⟨hst, hfr⟩ := xo.hs h3
    have hsd := xo.sd h4
    have hiv := xo.ivc h4
    refine TS.len (fun D st H hn q => ?_) (ps_tryA (tb := fun W' => TSr F ⟨W', [], fun _ => True⟩ fun en S => exS O b en S) xo.nd' hst hfr xo.tk (fun W' pn xe tk po => hb (xo.tr pn xe hsd hiv h3 tk po hex) h1) q1)
    obtain ⟨en, S, J, r, w, e, hl, p⟩ := q
    have conv : ∀ {J r en st} {W' : WX}, EnW F ⟨W', [], fun _ => True⟩ J r en st → EnW F W J r en st := fun {J r en st W'} e => ⟨by
      have z1 : W.st st = st := by rw [WS.st, hsd]; simp
      have z2 : WS.st ⟨W', [], fun _ => True⟩ st = st := by simp [WS.st]
      rw [z1, ← z2]
      exact e.en, hiv _⟩
    refine ⟨en, S, J, r, w, ⟨?_, trivial⟩, by rw [hl, WS.len, WS.len, hsd], ?_⟩
    · have z1 : W.st st = st := by rw [WS.st, hsd]; simp
      have z2 : ∀ W' : WX, WS.st ⟨W', [], fun _ => True⟩ st = st := fun W' => by simp [WS.st]
      rw [z2, ← z1]
      exact e.en
    · replace p : PoL F W st.length H J r (match exS O b en S with
        | .ex c fs en' S' => if c < O.nc then exH O hs c fs en' S' else .stk
        | o => o) D := p
      show PoL F _ _ H J r (exS O b en S) D
      cases h7 : exS O b en S with
      | nx en' S' =>
        rw [h7] at p
        exact fun st' H' J' r' a1 a2 a3 a4 a5 => p st' H' J' r' a1 a2 a3 (conv a4) (by rw [a5, WS.len, WS.len, hsd])
      | rt v S' => rw [h7] at p; exact p
      | stk => rw [h7] at p; exact p
      | ex c fs en' S' =>
        rw [h7] at p
        intro st' H' J' r' d ws a1 a2 a3 a4 a5 a6 a7
        dsimp only at p
        split at p
        · rename_i hc
          exact wAll_ok xo h4 hc (by rw [a1, hn, xo.hN]) a2 (conv a4) (by rw [a5, WS.len, WS.len, hsd]) a6 a7 hs q2 q3 (by rw [a1]; exact p.le a3)
        · exact p.elim
  · cases h
theorem ok_bnil : OkB F T k np O .nil := fun {G X W xs} xo h => by
  unfold ckB at h
  split at h
  · exact st_nil
  · cases h
theorem ok_bcons {c : C} {cs : Cs} (hc : OkT F T k np O c) (hs : OkB F T k np O cs) : OkB F T k np O (.cons c cs) := fun {G X W xs} xo h => by
  unfold ckB at h
  split at h
  · simp only [Bool.and_eq_true] at h
    exact st_cons (hc xo h.1) (hs xo h.2)
  · cases h
theorem ok_hnil : OkH F T k np O .nil := fun {G X W xs} xo h => by
  unfold ckH at h
  split at h
  · exact ⟨.nil, fun c z => by simp [hsC] at z, fun i z => by simp [hsI] at z⟩
  · cases h
theorem ok_hcons (c : Nat) (io : Option Nat) {b : Cs} {hs : Hs} (hb : OkB F T k np O b) (hh : OkH F T k np O hs) : OkH F T k np O (.cons c io b hs) := fun {G X W xs} xo h => by
  unfold ckH at h
  split at h
  · rename_i m p1 on y ys p2 xs
    simp only [Bool.and_eq_true, decide_eq_true_eq, Bool.not_eq_true'] at h
    obtain ⟨⟨⟨⟨h1, h2⟩, h3⟩, h4⟩, h5⟩ := h
    obtain ⟨q1, q2, q3⟩ := hh xo h5
    have nm : Names X m (.ref (F.ca c)) := ⟨xo.glo h2, h3, .inl (xo.cls c m h1)⟩
    have hc : c < T.cl.length := (List.getElem?_eq_some_iff.mp h1).1
    have q2' : ∀ c', c' ∈ hsC (.cons c io b hs) → c' < T.cl.length := fun c' z => by
      rcases List.mem_cons.mp z with rfl | z
      · exact hc
      · exact q2 c' z
    split at h4
    · refine ⟨.cons (q := ⟨.ref (F.ca c), none, _⟩) nm trivial (fun a oe cv d pn _ _ => hb (xo.suiteN a ((a, oe) :: pn)) h4) q1, q2', q3⟩
    · rename_i z i
      simp only [Bool.and_eq_true, decide_eq_true_eq] at h4
      obtain ⟨⟨⟨g1, g2⟩, g3⟩, g4⟩ := h4
      have hi : i < G.N.length := (List.getElem?_eq_some_iff.mp g1).1
      refine ⟨.cons (q := ⟨.ref (F.ca c), some i, _⟩) nm ⟨by rw [xo.hN]; exact g1, by show X.env.scope.names.lookup z = _; rw [xo.sc]; exact isLoc_ok g2⟩ (fun a oe cv d pn hz hf => ?_) q1, q2', fun j z => ?_⟩
      · refine ⟨fun pins s st H D I ⟨dd, e1, e2, q⟩ => ?_⟩
        subst e1
        subst e2
        exact (hb (xo.suiteX (a := a) g3 hz hf hi) g4).run pins s st H D I q
      · rcases List.mem_cons.mp z with rfl | z
        · exact hi
        · exact q3 j z
    · cases h4
  · cases h
mutual
theorem okT' (hO : O.nf = T.fn.length) : ∀ c : C, OkT F T k np O c
  | .set i e => ok_set hO i e
  | .tset is e => ok_tset hO is e
  | .par i j a b => ok_par hO i j a b
  | .sset a i e => ok_sset hO a i e
  | .exp e => ok_exp hO e
  | .ret e => ok_ret hO e
  | .retN => ok_retN
  | .ife c a b => ok_sif hO c (okB hO a) (okB hO b)
  | .whl c b => ok_whl hO c (okB hO b)
  | .forr t it b => ok_for hO t it (okB hO b)
  | .rai c es => ok_rai hO c es
  | .tri b hs => ok_tri (okB hO b) (okH hO hs)
  | .pas => ok_pas
theorem okB (hO : O.nf = T.fn.length) : ∀ cs : Cs, OkB F T k np O cs
  | .nil => ok_bnil
  | .cons c cs => ok_bcons (okT' hO c) (okB hO cs)
theorem okH (hO : O.nf = T.fn.length) : ∀ hs : Hs, OkH F T k np O hs
  | .nil => ok_hnil
  | .cons c io b hs => ok_hcons c io (okB hO b) (okH hO hs)
end
end
end GW
/-! Core 22: the text's defs keep what the core text computes. -/
namespace GW
open PySem L2
section
variable {P : Program} {w : World} {K : PySem.W.Frag} {mg : Str → Option Value} {base : Heap}
theorem fnG_of {k : Nat} {f : Addr} {fd : FuncData} {x qual : Str} {params : Arguments} {body : List Stmt} {scope : Scope} {N ps : List Str} {sp : Sp} {kws : List (Str × V)} {dvs : List V} (F : FunD K x qual params body scope dvs kws f fd) (S : FnScope N ps scope) (len : ∀ vs H Q E, sp vs H Q E → vs.length = ps.length)
    (hb : ∀ (cdv : Value) (A : Around) (outer : List Env) (s : Shared) (H : Hp) (vs : List V) (Q : VK) (E : XK), Room k (A.deeper (PyProof.Rows.envOfC qual scope s.heap.objs.size f cdv)) → A.guards = some [] → sp vs H Q E →
      ∃ t, PSs (cxOf (L2.CX P w) P w K mg base N qual scope f cdv A outer s H E) body t ∧ t { nx := fun _ H' => Q .non H', rt := Q } (start N vs) H) : FnG P w K mg base (k + 1) f fd ps sp := by
  obtain ⟨oc, od, dV, kV, doc, pm, an, cdv, ct, osl, rfl, lk, hcd, _, _⟩ := F.ex
  refine ⟨fun A outer s H args us vs Q E hr gd e0 bd rv hsp => ?_⟩
  have hl := len _ _ _ _ hsp
  have KX : K.In s.heap := e0.mod.kin.keeps fun b o e => (e0.bs b o e).1
  have lim : s.heap.NoLimit := e0.mod.nolimit.keeps fun b o e => (e0.bs b o e).1
  have kinds : ∀ y ∈ ps.zip us, scope.names.lookup y.1 = some .local ∨ (scope.names.lookup y.1 = some .cell ∧ ((cellsFrom (s.heap.objs.size + 1) scope.names []).lookup y.1).isSome = true) := by
    rintro ⟨n, v⟩ hy
    exact (S.par n (List.of_mem_zip hy).1).imp id fun q => ⟨q, PySem.W.cellsFrom_some _ _ _ (.inl q)⟩
  refine codeAny_call_function hr.depth (KX _ _ lk) rfl S.co S.gen rfl (PySem.W.codeRec_of KX hcd) (bd _ _ _ _ ?_)
  refine wpAny_newFunctionEnv_cells S.kind kinds fun env he s1 ic => ?_
  subst he
  refine ⟨lim.keeps ic.toInCall.keep, codeAny_func ?_⟩
  obtain ⟨t, ht, hq⟩ := hb cdv A outer s H vs Q E (hr.deeper _) gd hsp
  have I := inv_start (CX := L2.CX P w) (E := E) S hr.hd e0 hl rv ic
  refine wpAny_mono (ht.run [] s1 (start N vs) H _ I hq) (fun fl s2 hs => ?_) fun _ _ z => z
  have done_ : ∀ {v : V} {u : Value} {st2 : L2.St} {H2 : Hp}, Inv (cxOf (L2.CX P w) P w K mg base N qual scope f cdv A outer s H E) [] st2 H2 s2 → RelV v u → Q v H2 → CE outer P w H s Q u s2 := fun {v u st2 H2} I2 r2 q2 => ⟨v, H2, I2.os, I2.bare, I2.base, I2.hok, r2, q2⟩
  cases fl with
  | ret u => obtain ⟨v, st2, H2, I2, r2, q2⟩ := hs; exact done_ I2 r2 q2
  | next => obtain ⟨st2, H2, I2, q2⟩ := hs; exact done_ (v := .non) (u := .none) I2 rfl q2
  | brk => obtain ⟨_, _, _, z⟩ := hs; exact z.elim
  | cont => obtain ⟨_, _, _, z⟩ := hs; exact z.elim
end
end GW
/-! Core 23: the program. -/
namespace GW
open PySem L2
structure Dd where
  d : He.DefD
  ps : List Str
  N : List Str
def scB (N ps : List Str) (sc : Scope) : Bool := isFnS sc && !sc.isCoroutine && !sc.isGenerator && decide N.Nodup && decide (N.take ps.length = ps) && (ps.all fun x => match sc.names.lookup x with
  | some .local => true
  | some .cell => true
  | _ => false) && sc.names.all fun y => match y.2 with
  | .free => false
  | _ => true
theorem scB_ok {N ps : List Str} {sc : Scope} (h : scB N ps sc = true) : FnScope N ps sc := by
  unfold scB at h
  simp only [Bool.and_eq_true, Bool.not_eq_true', decide_eq_true_eq, List.all_eq_true] at h
  obtain ⟨⟨⟨⟨⟨⟨h1, h2⟩, h3⟩, h4⟩, h5⟩, h6⟩, h7⟩ := h
  refine ⟨isFnS_ok h1, h2, h3, h4, h5, fun x hx => ?_, fun y hy e => ?_⟩
  · have := h6 x hx
    split at this
    · exact .inl ‹_›
    · exact .inr ‹_›
    · cases this
  · have := h7 y hy
    rw [e] at this
    cases this
def ddB (T : Tab) (d : Df) (q : Dd) : Bool := decide (d.np = q.ps.length) && decide (d.nn = q.N.length) && scB q.N q.ps q.d.scope && ckB T ⟨q.N, q.d.scope, fun _ => true, true, true, none⟩ d.body q.d.body
def ddsB (T : Tab) : List Df → List Dd → Bool
  | [], [] => true
  | d :: ds, q :: qs => ddB T d q && ddsB T ds qs
  | _, _ => false
theorem ddsB_at {T : Tab} : ∀ {ds : List Df} {qs : List Dd}, ddsB T ds qs = true → ds.length = qs.length ∧ ∀ (f : Nat) d q, ds[f]? = some d → qs[f]? = some q → ddB T d q = true
  | [], [], _ => ⟨rfl, fun f d q h => by simp at h⟩
  | [], _ :: _, h => by cases h
  | _ :: _, [], h => by cases h
  | d :: ds, q :: qs, h => by
    obtain ⟨h1, h2⟩ := Bool.and_eq_true_iff.mp (show (ddB T d q && ddsB T ds qs) = true from h)
    obtain ⟨p1, p2⟩ := ddsB_at h2
    refine ⟨congrArg (· + 1) p1, fun f d' q' e1 e2 => ?_⟩
    cases f with
    | zero => simp at e1 e2; subst e1; subst e2; exact h1
    | succ f => exact p2 f d' q' (by simpa using e1) (by simpa using e2)
def npOf (qs : List Dd) (f : Nat) : Nat := match qs[f]? with
  | some q => q.ps.length
  | none => 0
structure Says (F : Fx) (T : Tab) (Pr : Pg) (qs : List Dd) (P : Program) (w : World) (K : PySem.W.Frag) (mg : Str → Option Value) (base : Heap) : Prop where
  hK : F.K = K
  ck : ddsB T Pr.defs qs = true
  nf : Pr.defs.length = T.fn.length
  fn : ∀ (f : Nat) q, qs[f]? = some q → (∃ x, T.fn[f]? = some x ∧ mg x = some (.ref (F.fa f))) ∧ ∃ fd, FunD K q.d.name q.d.qual q.d.params q.d.body q.d.scope (q.d.dvs K) [] (F.fa f) fd ∧ ∀ m, m ≤ q.d.dfl.length → ∃ dV, Vals ((q.d.dfl.drop (q.d.dfl.length - m)).map (He.Dv.v K)) dV ∧ Binds K fd q.ps dV
  df : ∀ (f : Nat) q, qs[f]? = some q → T.df.getD f [] = q.d.dfl ∧ ∀ d ∈ q.d.dfl, okDv d = true
  srf : ∀ c, c < T.cl.length → Pr.sub c c = true
  cil : ∀ c ∈ T.ci, c < T.cl.length
  cls : ∀ c x, T.cl[c]? = some x → mg x = some (.ref (F.ca c))
  ini : ∀ c ∈ T.ci, Ini F P w K mg base c
  sub : ∀ c d, c < T.cl.length → d < T.cl.length → PySem.W.exmOne K (.ref (F.ca c)) (.ref (F.ca d)) = some (Pr.sub c d)
  nc : Pr.nc = T.cl.length
  cf : ∀ c, F.cf c = T.cf.getD c []
  bl : ∀ x ∈ T.bl, mg x = none
  cst : ∀ x v, T.cs.lookup x = some v → CstAt mg x v
  sm : SmK K
section
variable {F : Fx} {T : Tab} {Pr : Pg} {qs : List Dd} {P : Program} {w : World} {K : PySem.W.Frag} {mg : Str → Option Value} {base : Heap}
theorem callN_len (s : Says F T Pr qs P w K mg base) (fu n f : Nat) (xs : List Val) (S : Store) (h : xs.length ≠ npOf qs f) : callN Pr fu n f xs S = .stk := by
  cases n with
  | zero => rfl
  | succ n =>
    unfold callN
    cases hd : Pr.defs[f]? with
    | none => rfl
    | some d =>
      obtain ⟨h1, h2⟩ := ddsB_at s.ck
      have hf : f < qs.length := by rw [← h1]; exact (List.getElem?_eq_some_iff.mp hd).1
      have hq : qs[f]? = some qs[f] := List.getElem?_eq_getElem hf
      have h3 := h2 f d _ hd hq
      unfold ddB at h3
      simp only [Bool.and_eq_true, decide_eq_true_eq] at h3
      have hnp : d.np = npOf qs f := by unfold npOf; rw [hq]; exact h3.1.1.1
      simp only [runD]
      rw [if_neg (by rw [hnp]; exact h)]
theorem start_en {W : WS} {J : Hp} {r : List Addr} {d : Df} {xs : List Val} {vs : List V} {N : List Str} (hsd : W.sd = []) (hiv : ∀ st, W.iv st) (t : Reps F J r xs vs) (hn : d.nn = N.length) : EnW F W J r (start0 d xs) (L2.start N vs) := by
  refine ⟨?_, hiv _⟩
  rw [show W.st (L2.start N vs) = L2.start N vs by rw [WS.st, hsd]; simp]
  intro i x h
  unfold start0 at h
  unfold L2.start
  by_cases hi : i < xs.length
  · rw [List.getElem?_append_left (by simpa using hi), List.getElem?_map, Option.map_eq_some_iff] at h
    obtain ⟨y, hy, e⟩ := h
    cases e
    obtain ⟨v, g1, g2⟩ := t.get hy
    exact ⟨v, by rw [List.getElem?_append_left (by rw [List.length_map, t.length]; exact hi), List.getElem?_map, g1]; rfl, g2⟩
  · rw [List.getElem?_append_right (by simpa using hi), List.getElem?_replicate] at h
    split at h <;> cases h
theorem held_of (s : Says F T Pr qs P w K mg base) {fu n k : Nat} (ih : ∀ (f : Nat) (q : Dd) (fd : FuncData), qs[f]? = some q → FunD K q.d.name q.d.qual q.d.params q.d.body q.d.scope (q.d.dvs K) [] (F.fa f) fd → FnG P w K mg base k (F.fa f) fd q.ps (SpF F (npOf qs f) (callN Pr fu n f)))
    (f : Nat) (x : Str) (hx : T.fn[f]? = some x) : Held1 F P w K mg base k (callN Pr fu n) (npOf qs) (T.df.getD f []) f x := by
  obtain ⟨hlen, hck⟩ := ddsB_at s.ck
  have hf : f < qs.length := by rw [← hlen, s.nf]; exact (List.getElem?_eq_some_iff.mp hx).1
  have hq : qs[f]? = some qs[f] := List.getElem?_eq_getElem hf
  obtain ⟨⟨y, hy, hm⟩, fd, FD, hb⟩ := s.fn f _ hq
  rw [hx] at hy
  cases hy
  obtain ⟨e1, e2⟩ := s.df f _ hq
  refine ⟨hm, FD.kp, ⟨fd, _, ih f _ fd hq FD, ?_, by unfold npOf; rw [hq]⟩, ?_⟩
  · rw [e1]; exact hb
  · rw [e1]; exact e2
theorem prog_fn (s : Says F T Pr qs P w K mg base) (fu : Nat) : ∀ (n f : Nat) (q : Dd) (fd : FuncData), qs[f]? = some q → FunD K q.d.name q.d.qual q.d.params q.d.body q.d.scope (q.d.dvs K) [] (F.fa f) fd → FnG P w K mg base (n + 3) (F.fa f) fd q.ps (SpF F (npOf qs f) (callN Pr fu n f)) := by
  intro n
  obtain ⟨hlen, hck⟩ := ddsB_at s.ck
  induction n with
  | zero =>
    intro f q fd hq FD
    refine ⟨?_⟩
    rintro A outer s H args us vs Q E hr gd e0 bd rv ⟨J, r, S, xs, _, _, _, p⟩
    exact p.elim
  | succ n ih =>
    intro f q fd hq FD
    have hf : f < Pr.defs.length := by rw [hlen]; exact (List.getElem?_eq_some_iff.mp hq).1
    have hd : Pr.defs[f]? = some Pr.defs[f] := List.getElem?_eq_getElem hf
    generalize Pr.defs[f] = d at hd
    have hnp : npOf qs f = q.ps.length := by unfold npOf; rw [hq]
    have c := hck f d q hd hq
    unfold ddB at c
    simp only [Bool.and_eq_true, decide_eq_true_eq] at c
    obtain ⟨⟨⟨c1, c2⟩, c3⟩, c5⟩ := c
    have S0 := scB_ok c3
    refine fnG_of FD S0 (fun vs H Q E ⟨J, r, S, xs, _, _, h, _⟩ => by rw [h, hnp]) (fun cdv A outer sh H vs Q E hr gd hsp => ?_)
    obtain ⟨J, r, S, xs, w0, t, hv, p⟩ := hsp
    let X := cxOf (L2.CX P w) P w K mg base q.N q.d.qual q.d.scope (F.fa f) cdv A outer sh H E
    let W : WS := ⟨fun cls d _ H => E cls d H, [], fun _ => True⟩
    have xo : XOk F T (n + 3) ⟨callN Pr fu n, fu, Pr.defs.length, Pr.nc, Pr.sub⟩ (npOf qs) ⟨q.N, q.d.scope, fun _ => true, true, true, none⟩ X W := {
      sx := ⟨s.hK, by have := hr.un; show (A.deeper _).units + 100 < cLine; omega, gd, s.sm⟩
      calm := fun _ => rfl
      hN := rfl
      nd := S0.nd
      sc := rfl
      fn := rfl
      tk := takes_of (X := X) rfl rfl rfl rfl
      rm := fun _ => hr
      sd := fun _ => rfl
      po := fun _ => passes_of (X := X) rfl
      hs := fun _ => ⟨rfl, rfl⟩
      ft := fun _ _ => rfl
      iv := fun _ _ _ _ _ => trivial
      ivc := fun _ _ => trivial
      fns := fun f x h => held_of s ih f x h
      cls := s.cls
      ini := s.ini
      sub := fun c d h1 h2 => s.sub c d h1 h2
      nc := s.nc
      srf := s.srf
      cil := s.cil
      xis := fun _ _ z => nomatch z
      cf := s.cf
      xat := fun _ _ z => nomatch z
      k2 := by omega
      bl := s.bl
      cst := s.cst
      ln := fun f xs S h => callN_len s fu n f xs S h }
    refine ⟨_, okB s.nf d.body xo c5, ?_⟩
    have hvx : xs.length = d.np := by rw [c1, ← hnp, ← hv, t.length]
    have hlv : vs.length ≤ q.N.length := by
      have := congrArg List.length S0.pre
      rw [List.length_take] at this
      omega
    refine ⟨start0 d xs, S, J, r, w0, start_en rfl (fun _ => trivial) t c2, ?_, ?_⟩
    · rw [WS.len]
      unfold start0 L2.start
      simp only [List.length_append, List.length_map, List.length_replicate, t.length, c2]
      rfl
    · have p2 : PoF F E H J r (runD ⟨callN Pr fu n, fu, Pr.defs.length, Pr.nc, Pr.sub⟩ d xs S) Q := by
        unfold callN at p
        rw [hd] at p
        exact p
      unfold runD at p2
      rw [if_pos hvx] at p2
      show PoL F W _ H J r (exS _ d.body (start0 d xs) S) _
      revert p2
      generalize exS _ d.body (start0 d xs) S = z
      intro p2
      cases z with
      | nx en' S' => exact fun st' H' J' r' a1 a2 a3 a4 a5 => p2 H' J' r' .non a2 a3 .non
      | rt v S' => exact fun H' J' r' u a1 a2 a3 => p2 H' J' r' u a1 a2 a3
      | ex c fs en' S' => exact fun st' H' J' r' d ws a1 a2 a3 a4 a5 a6 a7 => p2 H' J' r' d ws a2 a3 a6 a7
      | stk => exact p2
end
end GW
/-! Core 24: a law's end. -/
namespace GW
open PySem PySem.Spec PyProof.Rows L2
theorem law_g {P : Program} {w : World} {K : PySem.W.Frag} {mg mb : Str → Option Value} {k : Nat} {fa a : Addr} {fd : FuncData} {x : Str} {sp : Sp} {s0 : Shared} {vs : List Value} {ns : List Int}
    (KX : K.In s0.heap) (hns : s0.heap.Ns mainGlobals mg) (hb : s0.heap.Ns builtinsNs mb) (hbb : ∀ x : Str, x ≠ "__name__" → mb x = bootBuiltins x) (hlim : s0.heap.NoLimit) (hg : s0.gens = #[])
    (ha : s0.heap.get? a = some { cls := .type "list", data := .seq vs.toArray }) (hi : IntsAre vs ns) (hl : ns.length ≤ sizeLine) (hr : Room k callerA)
    (Fn : ∀ base : Heap, K.In base → base.Ns mainGlobals mg → FnG P w K mg base k fa fd [x] sp) (hbind : ∀ (s : Shared) (u : Value), BindsTo s fd ⟨[u], []⟩ [(x, u)])
    (hsp : ∀ H : Hp, Only H → SqL K H a (ns.map V.int) → sp [.ref a] H (fun v _ => v = .bl true) fun _ _ _ => False) :
    codeAny (model P w) callerA (.call (.ref fa) ⟨[.ref a], []⟩) (fun q s2 => q = .ok (.ret (.bool true)) ∧ OldK s0.heap s2.heap ∧ s2.os = s0.os ∧ AllBare s2.gens) s0 := by
  have rv := vals_ints hi
  have lenV := hi.length
  have core : ∀ H : Hp, Only H → SqL K H a (ns.map V.int) → HOk P w H s0.heap → (∀ b, H b ≠ none → b = a) → (H a ≠ none → K.lookup a = none) →
      codeAny (model P w) callerA (.call (.ref fa) ⟨[.ref a], []⟩) (fun q s2 => q = .ok (.ret (.bool true)) ∧ OldK s0.heap s2.heap ∧ s2.os = s0.os ∧ AllBare s2.gens) s0 := by
    intro H hO hS hok hA hK
    have noA : ∀ {b : Addr} {o : Obj} {es : Array DictEntry} {ep : Nat}, s0.heap.get? b = some o → o.data = .dict es ep → H b = none := fun {b o es ep} e d => Classical.byContradiction fun z => by
      rw [hA b z, ha] at e
      cases e
      cases d
    have nsK : ∀ {b : Addr} {m : Str → Option Value}, s0.heap.Ns b m → (hidT s0.heap H).Ns b m := fun {b m} ⟨o, es, ep, e, d, rest⟩ => ⟨o, es, ep, hidT_get e (noA e d), d, rest⟩
    have hKb : K.In (hidT s0.heap H) := fun b o e => hidT_get (KX b o e) (Classical.byContradiction fun z => by
      have e1 := hA b z
      rw [e1] at z e
      rw [hK z] at e
      cases e)
    have hM : Mod K mg (hidT s0.heap H) := ⟨hKb, nsK hns, ⟨mb, nsK hb, hbb⟩, hlim.elim fun mc q => ⟨mc, nsK q.1, q.2⟩⟩
    have e0 : Env0 P w K mg (hidT s0.heap H) callerA [] s0 H := ⟨rfl, hM, fun b o e => of_hidT e, Nat.le_of_eq (hidT_size _ _), trivial, fun b z => absurd (show b ∈ ([] : List Addr) from z) (by simp), hok, .of_eq hg⟩
    refine codeAny_mono ((Fn _ hKb (nsK hns)).run callerA [] s0 H ⟨[.ref a], []⟩ [.ref a] [.ref a] _ _ hr rfl e0 (hbind s0 (.ref a)) (.cons rfl .nil) (hsp H hO hS)) fun q s2 h => ?_
    cases q with
    | error e =>
      obtain ⟨_, _, _, _, _, _, _, _, _, _, _, _, z⟩ := (show L2.CX P w [] H s0 (fun _ _ _ => False) e s2 from h)
      exact z.elim
    | ok fl =>
      cases fl with
      | next => exact h.elim
      | brk => exact h.elim
      | cont => exact h.elim
      | ret u =>
        obtain ⟨v, H2, os, bare, un, hok2, rvu, e1⟩ := (show CE [] P w H s0 _ u s2 from h)
        have e2 : v = .bl true := e1
        subst e2
        have e3 : u = Value.bool true := rvu
        subst e3
        refine ⟨rfl, OldK.of_keep fun b o e => ?_, os, bare⟩
        cases hHb : H b with
        | none => exact un.keep b o e hHb (fun z => absurd (show b ∈ ([] : List Addr) from z) (by simp)) (by simp)
        | some ho =>
          rcases hO b with z | ⟨ob, xs, z⟩
          · rw [hHb] at z; cases z
          · obtain ⟨g1, _⟩ := hok b _ z
            obtain ⟨g2, _⟩ := hok2 b _ (un.frzs b ob _ z)
            rw [e] at g1
            cases g1
            exact g2
  cases hk : K.lookup a with
  | some o =>
    have e := KX a o hk
    rw [ha] at e
    cases e
    refine core (fun _ => none) (fun _ => .inl rfl) (.inr ⟨_, vs.toArray, _, hk, rfl, rfl, rfl, by rw [List.size_toArray, lenV]; exact hl, by simpa using rv⟩) (fun b u z => ?_) (fun b z => absurd rfl z) fun z => absurd rfl z
    have z' : (none : Option HO) = some u := z
    cases z'
  | none =>
    let o0 : Obj := { cls := .type "list", data := .seq vs.toArray }
    refine core (fun b => if b = a then some (.frz o0 (.lst (ns.map V.int))) else none) (fun b => ?_) (.inl (.inr ⟨o0, if_pos rfl⟩)) (fun b u z => ?_) (fun b z => ?_) fun _ => hk
    · by_cases hba : b = a
      · exact .inr ⟨_, _, if_pos hba⟩
      · exact .inl (if_neg hba)
    · by_cases hba : b = a
      · have z2 := (if_pos hba).symm.trans z
        cases z2
        subst hba
        exact ⟨ha, by rw [List.length_map]; exact hl, vs, _, rv, ha⟩
      · have z2 := (if_neg hba).symm.trans z
        cases z2
    · exact Classical.byContradiction fun hba => z (if_neg hba)
theorem walk_g {l : PySem.W.OpenLaw} {n k : Nat} {q : Program} {loose : List Str} {XP : (Str → Option Value) → Heap → Prop} {YP : World → Heap → Prop} {d : DefRec} {x : Str}
    (hn : l.most = some n) (hn2 : n ≤ sizeLine) (hdf : d.params.defaults = []) (hr : Room k callerA)
    (F : ∀ (w : World) (mg : Str → Option Value) (fa : Addr) (h : Heap), YP w h → h.Ns mainGlobals mg → mg d.name = some (.ref fa) →
      ∃ (K : PySem.W.Frag) (fd : FuncData) (sp : Sp), K.In h ∧ (∀ (s : Shared) (u : Value), BindsTo s fd ⟨[u], []⟩ [(x, u)]) ∧
        (∀ (H : Hp) (a : Addr) (ns : List Int), ns.length ≤ n → Only H → SqL K H a (ns.map V.int) → sp [.ref a] H (fun v _ => v = .bl true) fun _ _ _ => False) ∧
        ∀ base : Heap, K.In base → base.Ns mainGlobals mg → FnG l.prog w K mg base k fa fd [x] sp) :
    PySem.W.WalkO q loose XP YP l.row.toRowW d [] (fun f vs => PySem.call f vs) := by
  refine Att.attach_call hn hdf fun w s2 s1 mg mb fa o pm cd doc a vs ns G Y ho hd hcd hmg hobj hints hlen hg => ?_
  obtain ⟨K, fd, sp, KX, hb, hsp, hF⟩ := F w mg fa _ Y G.T.g hmg
  exact law_g KX G.T.g G.T.b G.T.builtins G.T.nolimit hg hobj hints (Nat.le_trans hlen hn2) hr hF hb fun H hO hS => hsp H a ns hlen hO hS
/-! ### the exception classes' own __init__ -/
def ini1 (ps : List Str) (body : List Stmt) (f : Str) : Bool := match ps, body with
  | [s, y], [.Assign [.Attribute (.Name s' _) f' _] (.Name y' _) _] => decide (s' = s) && decide (y' = y) && decide (f' = f) && decide (s ≠ y)
  | _, _ => false
def ini2 (ps : List Str) (body : List Stmt) (f g : Str) : Bool := match ps, body with
  | [s, y, z], [.Assign [.Attribute (.Name s' _) f' _] (.Name y' _) _, .Assign [.Attribute (.Name s2 _) g' _] (.Name z' _) _] => decide (s' = s) && decide (y' = y) && decide (f' = f) && decide (s2 = s) && decide (z' = z) && decide (g' = g)
  | _, _ => false
def iniB (ps : List Str) (sc : Scope) (body : List Stmt) (fs : List Str) : Bool := scB ps ps sc && (ps.all fun x => isLoc sc x && !(x == ("__debug__" : Str)) && !(x == ("__classdict__" : Str))) && (match fs with
  | [f] => ini1 ps body f
  | [g, f] => ini2 ps body f g
  | _ => false)
def oexB (K : PySem.W.Frag) (C : Addr) : Bool := (match K.lookup C with
  | some ⟨.type "type", _, .cls cd, sl⟩ => (match cd.mro, sl.toList with
    | .ref C' :: bm, [_, _, _, _, some (.builtin n), _] => C' == C && n == "ValueError.__new__" && !cd.hasDel && cd.hasDict && PySem.HandSPX.refsVE bm
    | _, _ => false)
  | _ => false) && decide (PySem.W.findIn K (.ref C) "__setattr__" = some (some (.builtin "object.__setattr__"))) && decide (PySem.W.subIn K (.ref C) (.type "BaseException") = some true) && decide (PySem.W.typeIn K (.ref C) = some (.type "type")) && PySem.W.keepIn K (.ref C)
theorem oexB_ok {K : PySem.W.Frag} {C : Addr} (h : oexB K C = true) : OexC K C := by
  unfold oexB at h
  simp only [Bool.and_eq_true, decide_eq_true_eq] at h
  obtain ⟨⟨⟨⟨h1, h2⟩, h3⟩, h4⟩, h5⟩ := h
  refine ⟨?_, h2, h3, h4, h5⟩
  split at h1
  · rename_i dd cd sl ho
    split at h1
    · rename_i C' bm k0 k1 k2 k3 n k5 hm hs
      simp only [Bool.and_eq_true, beq_iff_eq, Bool.not_eq_true'] at h1
      obtain ⟨⟨⟨⟨rfl, rfl⟩, hdel⟩, hdict⟩, hve⟩ := h1
      obtain ⟨nm, bs, mro, nsa, qn, hd, sn, sub, ab, col, del⟩ := cd
      dsimp only at hm hdel hdict
      subst hm
      subst hdel
      subst hdict
      have hsl : sl = #[k0, k1, k2, k3, some (.builtin "ValueError.__new__"), k5] := by
        obtain ⟨l⟩ := sl
        simp only at hs
        rw [hs]
      subst hsl
      exact ⟨nm, qn, nsa, bs, bm, sn, sub, ab, col, dd, k0, k1, k2, k3, k5, ho, hve⟩
    · cases h1
  · cases h1
theorem upd_flip {H : Hp} {p q : Addr} {u v t : HO} (h : p ≠ q) : upd (upd (upd H p u) q v) p t = upd (upd H p t) q v := by
  funext z
  by_cases h1 : z = p
  · subst h1; rw [upd_same, upd_ne h, upd_same]
  · by_cases h2 : z = q
    · subst h2; rw [upd_ne h1, upd_same, upd_same]
    · rw [upd_ne h1, upd_ne h2, upd_ne h1, upd_ne h2, upd_ne h1]
theorem ini_ok {F : Fx} {P : Program} {w : World} {K : PySem.W.Frag} {mg : Str → Option Value} {base : Heap} {c : Nat} {fI : Addr} {fd : FuncData} {x qual : Str} {params : Arguments} {body : List Stmt} {scope : Scope} {ps : List Str} {kws : List (Str × V)}
    (FD : FunD K x qual params body scope [] kws fI fd) (h : iniB ps scope body (F.cf c) = true) (oex : OexC K (F.ca c)) (fld : ∀ f ∈ F.cf c, PySem.W.findIn K (.ref (F.ca c)) f = some none) : FnOk P w K mg base (L2.CX P w) 1 fI fd ps (SpI F c) := by
  unfold iniB at h
  simp only [Bool.and_eq_true, List.all_eq_true, Bool.not_eq_true'] at h
  obtain ⟨⟨h1, h2⟩, h3⟩ := h
  have S := scB_ok h1
  split at h3
  · rename_i f hcf
    unfold ini1 at h3
    split at h3
    · rename_i sn yn _ s' p1 f' p2 y' p3 p4
      simp only [Bool.and_eq_true, decide_eq_true_eq] at h3
      obtain ⟨⟨⟨rfl, rfl⟩, rfl⟩, hne⟩ := h3
      obtain ⟨⟨a1, a2⟩, a3⟩ := h2 s' (by simp)
      obtain ⟨⟨b1, b2⟩, b3⟩ := h2 y' (by simp)
      refine FD.ok S (fun vs H Q E ⟨a, ys, e, hl, _⟩ => by rw [e, List.length_cons, hl, hcf]; rfl) fun cdv A outer s H vs Q E hr hsp => ?_
      refine ⟨_, pss_one (ps_ost (pe_var (i := 0) rfl (.inl (isLoc_ok a1)) a2 a3) (pe_var (i := 1) rfl (.inl (isLoc_ok b1)) b2 b3)), ?_⟩
      obtain ⟨a, ys, rfl, hl, hH, q⟩ := hsp
      rw [hcf] at hl q
      match ys, hl with
      | [y], _ => exact ⟨y, rfl, .ref a, rfl, a, F.ca c, rfl, oex, fld f' (by rw [hcf]; simp), .inl ⟨hH, fun dx d1 d2 => q dx d1 d2⟩⟩
    · cases h3
  · rename_i g f hcf
    unfold ini2 at h3
    split at h3
    · rename_i sn yn zn _ s' p1 f' p2 y' p3 p4 s2 p5 g' p6 z' p7 p8
      simp only [Bool.and_eq_true, decide_eq_true_eq] at h3
      obtain ⟨⟨⟨⟨⟨rfl, rfl⟩, rfl⟩, rfl⟩, rfl⟩, rfl⟩ := h3
      obtain ⟨⟨a1, a2⟩, a3⟩ := h2 s2 (by simp)
      obtain ⟨⟨b1, b2⟩, b3⟩ := h2 y' (by simp)
      obtain ⟨⟨c1, c2⟩, c3⟩ := h2 z' (by simp)
      refine FD.ok S (fun vs H Q E ⟨a, ys, e, hl, _⟩ => by rw [e, List.length_cons, hl, hcf]; rfl) fun cdv A outer s H vs Q E hr hsp => ?_
      refine ⟨_, pss_cons (ps_ost (pe_var (i := 0) rfl (.inl (isLoc_ok a1)) a2 a3) (pe_var (i := 1) rfl (.inl (isLoc_ok b1)) b2 b3)) (pss_one (ps_ost (pe_var (i := 0) rfl (.inl (isLoc_ok a1)) a2 a3) (pe_var (i := 2) rfl (.inl (isLoc_ok c1)) c2 c3))), ?_⟩
      obtain ⟨a, ys, rfl, hl, hH, q⟩ := hsp
      rw [hcf] at hl q
      match ys, hl with
      | [y, z], _ =>
        refine ⟨y, rfl, .ref a, rfl, a, F.ca c, rfl, oex, fld f' (by rw [hcf]; simp), .inl ⟨hH, fun dx d1 d2 => ?_⟩⟩
        refine ⟨z, rfl, .ref a, rfl, a, F.ca c, rfl, oex, fld g' (by rw [hcf]; simp), .inr ⟨dx, _, upd_same, by rw [upd_ne d2, upd_same], by simp, ?_⟩⟩
        rw [upd_flip d2]
        exact q dx d1 d2
    · cases h3
  · cases h3
/-! ### the head's facts -/
structure Xd where
  x : Str
  fs : List Str
  ini : Option Nat
def xdB (K : PySem.W.Frag) (q : Xd) : Bool := match q.ini with
  | none => true
  | some _ => oexB K (He.ga K q.x) && xfB K (He.ga K q.x) && xcB K (He.ga K q.x) && (q.fs.all fun f => decide (PySem.W.findIn K (.ref (He.ga K q.x)) f = some none)) && decide (PySem.W.findIn K (.ref (He.ga K q.x)) "__init__" = some (some (.ref (He.ma K (He.ga K q.x) "__init__")))) && decide (PySem.W.typeIn K (.ref (He.ma K (He.ga K q.x) "__init__")) = some (.type "function"))
def smB (K : PySem.W.Frag) : Bool := (K.lookup sysModules).isSome && (match K.lookup cStatics with
  | some ⟨_, _, .dict es _, _⟩ => (es.toList.all fun e => match e.key with | .str _ _ => true | _ => false) && (nsFind es digitsKey).isNone
  | _ => false)
theorem smB_ok {K : PySem.W.Frag} (h : smB K = true) : SmK K := by
  unfold smB at h
  obtain ⟨h1, h2⟩ := Bool.and_eq_true_iff.mp h
  refine ⟨Option.isSome_iff_exists.mp h1, ?_⟩
  split at h2
  · rename_i es ep _ e
    obtain ⟨h3, h4⟩ := Bool.and_eq_true_iff.mp h2
    refine ⟨_, es, ep, e, rfl, fun e he => ?_, by simpa using h4⟩
    have := List.all_eq_true.mp h3 e (by simpa using he)
    split at this
    · exact ⟨_, _, by assumption⟩
    · cases this
  · cases h2
def exB (xs : List Xd) (K : PySem.W.Frag) : Bool := smB K && xs.all (xdB K)
abbrev AlG : Type := He.AlD × Bool
def frS (n : Nat) (g : Addr → Option Obj) : PySem.W.Frag := He.frG g (cStatics :: sysModules :: He.asD g n)
def obsX (n : Nat) (fa : List He.Fa) (fn : List He.DefD) (xs : List Xd) (g : Addr → Option Obj) : AlG := (He.obsD fa fn (frS n g), exB xs (frS n g))
def hookX (n : Nat) (fa : List He.Fa) (fn : List He.DefD) (xs : List Xd) : PySem.W.Hook where
  α := AlG
  obs := fun s => obsX n fa fn xs s.heap.get?
  val := fun _ => (He.valD fn, true)
  says := fun _ h => ∃ K : PySem.W.Frag, K.In h ∧ He.SaysD fa fn K ∧ exB xs K = true
  of := fun _ _ e => ⟨_, He.frG_in, congrArg (fun z : AlG => z.1) e, congrArg (fun z : AlG => z.2) e⟩
  keeps := fun _ _ _ ⟨K, hK, c⟩ k => ⟨K, PySem.W.Frag.In.keeps hK k, c⟩
theorem obsX_eq {n : Nat} {fa : List He.Fa} {fn : List He.DefD} {xs : List Xd} {g : Addr → Option Obj} {s : Shared} (h : ∀ a, g a = s.heap.get? a) : obsX n fa fn xs g = (hookX n fa fn xs).obs s := by
  have e : g = s.heap.get? := funext h
  rw [e]
  rfl
end GW
/-! Core 25: a law from its tables. -/
namespace GW
open PySem L2
structure Whole where
  T : Tab
  Pr : Pg
  qs : List Dd
  is : List Dd
  xs : List Xd
def plainD (q : Dd) : Bool := (match q.d.dfl with
  | [] => true
  | _ => false) && (match q.d.kwd with
  | [] => true
  | _ => false)
def kwdD (q : Dd) : Bool := (match q.d.kwd with
  | [] => true
  | _ => false) && decide (q.d.dfl.length ≤ q.ps.length)
def dvB : He.Dv → He.Dv → Bool
  | .non, .non => true
  | .bl a, .bl b => decide (a = b)
  | .int a, .int b => decide (a = b)
  | .str a, .str b => decide (a = b)
  | _, _ => false
def dvsB : List He.Dv → List He.Dv → Bool
  | [], [] => true
  | a :: as, b :: bs => dvB a b && dvsB as bs
  | _, _ => false
def dfsB : List (List He.Dv) → List Dd → Bool
  | [], [] => true
  | a :: as, q :: qs => dvsB a q.d.dfl && dfsB as qs
  | _, _ => false
theorem dvB_ok {a b : He.Dv} (h : dvB a b = true) : a = b ∧ okDv b = true := by
  unfold dvB at h
  split at h <;> first | exact ⟨rfl, rfl⟩ | (cases of_decide_eq_true h; exact ⟨rfl, rfl⟩) | cases h
theorem dvsB_ok : ∀ {as bs : List He.Dv}, dvsB as bs = true → as = bs ∧ ∀ b ∈ bs, okDv b = true
  | [], [], _ => ⟨rfl, fun b h => (nomatch h)⟩
  | [], _ :: _, h => by cases h
  | _ :: _, [], h => by cases h
  | a :: as, b :: bs, h => by
    obtain ⟨h1, h2⟩ := Bool.and_eq_true_iff.mp (show (dvB a b && dvsB as bs) = true from h)
    obtain ⟨rfl, e1⟩ := dvB_ok h1
    obtain ⟨rfl, e2⟩ := dvsB_ok h2
    refine ⟨rfl, fun c hc => ?_⟩
    rcases List.mem_cons.mp hc with rfl | hc
    · exact e1
    · exact e2 c hc
theorem dfsB_ok : ∀ {as : List (List He.Dv)} {qs : List Dd}, dfsB as qs = true → ∀ (f : Nat) q, qs[f]? = some q → as.getD f [] = q.d.dfl ∧ ∀ d ∈ q.d.dfl, okDv d = true
  | [], [], _, f, q, h => by simp at h
  | [], _ :: _, h, _, _, _ => by cases h
  | _ :: _, [], h, _, _, _ => by cases h
  | a :: as, p :: qs, h, f, q, hq => by
    obtain ⟨h1, h2⟩ := Bool.and_eq_true_iff.mp (show (dvsB a p.d.dfl && dfsB as qs) = true from h)
    cases f with
    | zero =>
      simp at hq
      subst hq
      exact dvsB_ok h1
    | succ f => exact dfsB_ok h2 f q (by simpa using hq)
def Whole.ok (W : Whole) : Bool := ddsB W.T W.Pr.defs W.qs && decide (W.T.fn = W.qs.map (·.d.at_.1)) && (W.qs.all fun q => decide (q.d.at_.2 = none) && kwdD q) && dfsB W.T.df W.qs && ((List.range W.T.cl.length).all fun c => W.Pr.sub c c) && decide (W.Pr.nc = W.T.cl.length) && decide (W.T.cl = W.xs.map (·.x)) && decide (W.T.cf = W.xs.map (·.fs)) &&
  W.T.ci.all fun c => match W.xs[c]? with
    | some ⟨x, fs, some j⟩ => (match W.is[j]? with
      | some q => decide (q.d.at_ = (x, some ("__init__" : Str))) && iniB q.ps q.d.scope q.d.body fs && plainD q
      | none => false)
    | _ => false
def Whole.fn (W : Whole) : List He.DefD := W.qs.map (·.d) ++ W.is.map (·.d)
def exms (sub : Nat → Nat → Bool) (xs : List Str) : List He.Fa := (xs.zipIdx).flatMap fun p => (xs.zipIdx).map fun q => He.Fa.exm p.1 q.1 (sub p.2 q.2)
def cstF (p : Str × Val) : He.Fa := match p.2 with
  | .int i => .int p.1 i
  | .str z => .str p.1 z
  | _ => .glo p.1
def Whole.fa (W : Whole) : List He.Fa := W.T.fn.map He.Fa.glo ++ W.T.cl.map He.Fa.glo ++ W.T.bl.map He.Fa.free ++ exms W.Pr.sub W.T.cl ++ W.T.cs.map cstF
def Whole.F (W : Whole) (K : PySem.W.Frag) : Fx := ⟨K, fun f => match W.qs[f]? with
  | some q => He.fAd K q.d.at_
  | none => 0, fun c => He.ga K (W.T.cl.getD c Str.empty), fun c => W.T.cf.getD c []⟩
def BindOk (q : Dd) : Prop := ∀ (kV doc pm : Value) (an : Option Addr) (cdv ct : Value) (us : List Value), us.length = q.ps.length → bindArgs (PySem.W.fnOf q.d.name q.d.qual q.d.params q.d.body q.d.scope .none kV doc pm an cdv ct) ⟨us, []⟩ = pure (q.ps.zip us)
def BindD (q : Dd) : Prop := ∀ (m : Nat), m ≤ q.d.dfl.length → ∀ (T : Addr) (kV doc pm : Value) (an : Option Addr) (cdv ct : Value) (us its : List Value), us.length + m = q.ps.length → its.length = q.d.dfl.length →
  ∃ k, bindArgs (PySem.W.fnOf q.d.name q.d.qual q.d.params q.d.body q.d.scope (.ref T) kV doc pm an cdv ct) ⟨us, []⟩ = seqItems? (.ref T) >>= k ∧ k (some its.toArray) = pure (q.ps.zip (us ++ its.drop (q.d.dfl.length - m)))
def BindAny (q : Dd) : Prop := (q.d.dfl = [] ∧ BindOk q) ∨ (q.d.dfl ≠ [] ∧ BindD q)
theorem lookup_mem {x : Str} {v : Val} : ∀ {l : List (Str × Val)}, l.lookup x = some v → (x, v) ∈ l
  | [], h => by cases h
  | (y, u) :: l, h => by
    rw [List.lookup_cons] at h
    split at h
    · rename_i e
      have e' : x = y := by simpa using e
      cases h
      rw [e']
      exact List.mem_cons_self ..
    · exact List.mem_cons_of_mem _ (lookup_mem h)
theorem fact_all {fa : List He.Fa} {fn : List He.DefD} {K : PySem.W.Frag} (c : He.SaysD fa fn K) {f : He.Fa} (h : f ∈ fa) : f.ok K = true := by
  obtain ⟨i, hi, e⟩ := List.getElem_of_mem h
  exact c.fact i (by rw [List.getElem?_eq_getElem hi, e])
theorem def_all {fa : List He.Fa} {fn : List He.DefD} {K : PySem.W.Frag} (c : He.SaysD fa fn K) {d : He.DefD} (h : d ∈ fn) : ∃ fd, FunD K d.name d.qual d.params d.body d.scope (d.dvs K) (d.kws K) (He.fAd K d.at_) fd := by
  obtain ⟨i, hi, e⟩ := List.getElem_of_mem h
  exact c.def_ i (by rw [List.getElem?_eq_getElem hi, e])
theorem plain_funD {K : PySem.W.Frag} {q : Dd} (h : plainD q = true) (x : ∃ fd, FunD K q.d.name q.d.qual q.d.params q.d.body q.d.scope (q.d.dvs K) (q.d.kws K) (He.fAd K q.d.at_) fd) : ∃ fd, FunD K q.d.name q.d.qual q.d.params q.d.body q.d.scope [] [] (He.fAd K q.d.at_) fd := by
  obtain ⟨h1, h2⟩ := Bool.and_eq_true_iff.mp h
  have e1 : q.d.dvs K = [] := by
    unfold He.DefD.dvs
    split at h1
    · rename_i e; rw [e]; rfl
    · cases h1
  have e2 : q.d.kws K = [] := by
    unfold He.DefD.kws
    split at h2
    · rename_i e; rw [e]; rfl
    · cases h2
  rw [e1, e2] at x
  exact x
theorem getD_at {α : Type} {l : List α} {i : Nat} {x d : α} (h : l[i]? = some x) : l.getD i d = x := by
  rw [List.getD_eq_getElem?_getD, h]; rfl
section
variable {W : Whole} {K : PySem.W.Frag} {h : Heap} {mg : Str → Option Value} {P : Program} {w : World}
theorem whole_says (ok : W.ok = true) (bd : ∀ q ∈ W.qs ++ W.is, BindAny q) (X : K.In h) (G : h.Ns mainGlobals mg) (c : He.SaysD W.fa W.fn K) (e : exB W.xs K = true) (base : Heap) : Says (W.F K) W.T W.Pr W.qs P w K mg base := by
  unfold Whole.ok at ok
  simp only [Bool.and_eq_true, decide_eq_true_eq, List.all_eq_true] at ok
  obtain ⟨⟨⟨⟨⟨⟨⟨⟨o1, o2⟩, o3⟩, o8⟩, o9⟩, o4⟩, o5⟩, o6⟩, o7⟩ := ok
  have glo : ∀ x ∈ W.T.fn ++ W.T.cl, mg x = some (.ref (He.ga K x)) := fun x hx => He.glo_ok X G (fact_all c (f := .glo x) (by
    unfold Whole.fa
    rcases List.mem_append.mp hx with hx | hx
    · exact List.mem_append_left _ (List.mem_append_left _ (List.mem_append_left _ (List.mem_append_left _ (List.mem_map.mpr ⟨x, hx, rfl⟩))))
    · exact List.mem_append_left _ (List.mem_append_left _ (List.mem_append_left _ (List.mem_append_right _ (List.mem_map.mpr ⟨x, hx, rfl⟩))))))
  have ha : ∀ q ∈ W.qs ++ W.is, plainD q = true → ∃ fd, FunD K q.d.name q.d.qual q.d.params q.d.body q.d.scope [] [] (He.fAd K q.d.at_) fd ∧ Binds K fd q.ps [] := fun q hq hp => by
    obtain ⟨fd, FD⟩ := plain_funD hp (def_all c (d := q.d) (by
      unfold Whole.fn
      rcases List.mem_append.mp hq with z | z
      · exact List.mem_append_left _ (List.mem_map.mpr ⟨q, z, rfl⟩)
      · exact List.mem_append_right _ (List.mem_map.mpr ⟨q, z, rfl⟩)))
    have hbq : BindOk q := by
      rcases bd q hq with ⟨_, h⟩ | ⟨h, _⟩
      · exact h
      · exfalso
        obtain ⟨z, _⟩ := Bool.and_eq_true_iff.mp hp
        split at z
        · rename_i e; exact h e
        · cases z
    exact ⟨fd, FD, FD.bindsN hbq⟩
  have hD : ∀ q ∈ W.qs, kwdD q = true → ∃ fd, FunD K q.d.name q.d.qual q.d.params q.d.body q.d.scope (q.d.dvs K) [] (He.fAd K q.d.at_) fd ∧ ∀ m, m ≤ q.d.dfl.length → ∃ dV, Vals ((q.d.dfl.drop (q.d.dfl.length - m)).map (He.Dv.v K)) dV ∧ Binds K fd q.ps dV := fun q hq hp => by
    obtain ⟨fd, FD⟩ := def_all c (d := q.d) (by
      unfold Whole.fn
      exact List.mem_append_left _ (List.mem_map.mpr ⟨q, hq, rfl⟩))
    unfold kwdD at hp
    obtain ⟨hp, hdl⟩ := Bool.and_eq_true_iff.mp hp
    have hdl := of_decide_eq_true hdl
    have ek : q.d.kws K = [] := by
      unfold He.DefD.kws
      split at hp
      · rename_i e; rw [e]; rfl
      · cases hp
    rw [ek] at FD
    refine ⟨fd, FD, fun m hm => ?_⟩
    rcases bd q (List.mem_append_left _ hq) with ⟨h0, hb⟩ | ⟨h0, hb⟩
    · have e0 : q.d.dvs K = [] := by unfold He.DefD.dvs; rw [h0]; rfl
      rw [e0] at FD
      refine ⟨[], by rw [h0, List.drop_nil]; exact .nil, FD.bindsN hb⟩
    · have dl : (q.d.dvs K).length = q.d.dfl.length := by unfold He.DefD.dvs; rw [List.length_map]
      obtain ⟨ds, rd, bn⟩ := FD.binds1 (q.ps.length - m) (q.d.dfl.length - m) (by unfold He.DefD.dvs; simpa using h0) (by rw [dl]; omega) (fun T kV doc pm an cdv ct us its l1 l2 => hb m hm T kV doc pm an cdv ct us its (by omega) (by rw [l2, dl]))
      refine ⟨ds, ?_, bn⟩
      unfold He.DefD.dvs at rd
      rw [List.map_drop]
      exact rd
  obtain ⟨e1, e2⟩ := Bool.and_eq_true_iff.mp e
  refine ⟨rfl, o1, ?_, fun f q hq => ?_, fun f q hq => dfsB_ok o8 f q hq, fun c hc => o9 c (List.mem_range.mpr hc), fun c hc => ?_, fun i x hx => ?_, fun i hi => ?_, fun i j hi hj => ?_, o4, fun _ => rfl, fun x hx => ?_, fun x v hx => ?_, smB_ok e1⟩
  · rw [(ddsB_at o1).1, o2, List.length_map]
  · have hm : q ∈ W.qs := List.mem_of_getElem? hq
    obtain ⟨h1, h2⟩ := o3 q hm
    have hfa : (W.F K).fa f = He.fAd K q.d.at_ := by show (match W.qs[f]? with | some q => He.fAd K q.d.at_ | none => 0) = _; rw [hq]
    have hT : W.T.fn[f]? = some q.d.at_.1 := by rw [o2, List.getElem?_map, hq]; rfl
    refine ⟨⟨_, hT, ?_⟩, ?_⟩
    · rw [glo _ (List.mem_append_left _ (List.mem_of_getElem? hT)), hfa]
      unfold He.fAd
      rw [h1]
    · rw [hfa]
      exact hD q hm h2
  · have z := o7 c hc
    split at z
    · rename_i x fs j hx
      rw [o5, List.length_map]
      exact (List.getElem?_eq_some_iff.mp hx).1
    · cases z
  · rw [glo x (List.mem_append_right _ (List.mem_of_getElem? hx))]
    show _ = some (Value.ref (He.ga K (W.T.cl.getD i Str.empty)))
    rw [getD_at hx]
  · have z := o7 i hi
    split at z
    · rename_i x fs j hx
      split at z
      · rename_i q hj
        simp only [Bool.and_eq_true, decide_eq_true_eq] at z
        obtain ⟨⟨z1, z2⟩, z3⟩ := z
        have hcl : W.T.cl.getD i Str.empty = x := getD_at (by rw [o5, List.getElem?_map, hx]; rfl)
        have hcf : (W.F K).cf i = fs := getD_at (by rw [o6, List.getElem?_map, hx]; rfl)
        have hca : (W.F K).ca i = He.ga K x := by show He.ga K _ = _; rw [hcl]
        have hb := List.all_eq_true.mp e2 _ (List.mem_of_getElem? hx)
        unfold xdB at hb
        simp only [Bool.and_eq_true, decide_eq_true_eq, List.all_eq_true] at hb
        obtain ⟨⟨⟨⟨⟨b1, b2⟩, b6⟩, b3⟩, b4⟩, b5⟩ := hb
        obtain ⟨fd, FD, bi⟩ := ha q (List.mem_append_right _ (List.mem_of_getElem? hj)) z3
        have hat : He.fAd K q.d.at_ = He.ma K (He.ga K x) "__init__" := by rw [z1]; rfl
        rw [hat] at FD
        have ox : OexC K ((W.F K).ca i) := by rw [hca]; exact oexB_ok b1
        have fl : ∀ f ∈ (W.F K).cf i, PySem.W.findIn K (.ref ((W.F K).ca i)) f = some none := by rw [hca, hcf]; exact b3
        refine ⟨ox, by rw [hca]; exact xcB_ok b6, by rw [hca]; exact xfB_ok b2, fl, He.ma K (He.ga K x) "__init__", fd, q.ps, by rw [hca]; exact b4, b5, ini_ok FD (by rw [hcf]; exact z2) ox fl, bi⟩
      · cases z
    · cases z
  · have hx := List.getElem?_eq_getElem hi
    have hy := List.getElem?_eq_getElem hj
    have q := He.exm_ok (fact_all c (f := .exm W.T.cl[i] W.T.cl[j] (W.Pr.sub i j)) (by
      unfold Whole.fa
      refine List.mem_append_left _ (List.mem_append_right _ ?_)
      unfold exms
      refine List.mem_flatMap.mpr ⟨(W.T.cl[i], i), ?_, List.mem_map.mpr ⟨(W.T.cl[j], j), ?_, rfl⟩⟩
      · exact List.mem_zipIdx_iff_getElem?.mpr hx
      · exact List.mem_zipIdx_iff_getElem?.mpr hy))
    show PySem.W.exmOne K (.ref (He.ga K (W.T.cl.getD i Str.empty))) (.ref (He.ga K (W.T.cl.getD j Str.empty))) = _
    rw [getD_at hx, getD_at hy]
    exact q
  · exact He.free_ok X G (fact_all c (f := .free x) (by
      unfold Whole.fa
      exact List.mem_append_left _ (List.mem_append_left _ (List.mem_append_right _ (List.mem_map.mpr ⟨x, hx, rfl⟩)))))
  · have hm : (x, v) ∈ W.T.cs := lookup_mem hx
    have hf : cstF (x, v) ∈ W.fa := by
      unfold Whole.fa
      exact List.mem_append_right _ (List.mem_map.mpr ⟨_, hm, rfl⟩)
    cases v with
    | int i => exact He.int_ok X G (fact_all c (f := .int x i) hf)
    | str z => exact He.str_ok X G (fact_all c (f := .str x z) hf)
    | _ => trivial
def SpL (F : Fx) (Pr : Pg) (n li : Nat) : Sp := fun vs H Q E => ∃ fu J r S xs, Wo F H J r S ∧ Reps F J r xs vs ∧ vs.length = 1 ∧ PoF F E H J r (callN Pr fu n li xs S) Q
theorem sp_script {F : Fx} {K : PySem.W.Frag} (hK : F.K = K) {Pr : Pg} {n li : Nat} {ns : List Int} {H : Hp} {a : Addr} (hS : SqL K H a (ns.map V.int)) (p : ∃ fu S, callN Pr fu n li [.scr (ns.map Val.int)] [] = .ok (.bl true) S) : SpL F Pr n li [.ref a] H (fun v _ => v = .bl true) fun _ _ _ => False := by
  obtain ⟨fu, S, e⟩ := p
  have t : ∀ ns : List Int, Reps F H [] (ns.map Val.int) (ns.map V.int) := fun ns => by
    induction ns with
    | nil => exact .nil
    | cons n ns ih => exact .cons (.int n) ih
  refine ⟨fu, H, [], [], [.scr (ns.map Val.int)], ⟨fun _ _ z => z, fun _ z => (by cases z), List.nodup_nil, rfl, fun l o z => (by simp at z)⟩, .cons (.scr (hK ▸ hS) (t ns)) .nil, rfl, ?_⟩
  rw [e]
  intro H' J' r' v _ _ k
  cases k
  rfl
theorem whole_law (ok : W.ok = true) (bd : ∀ q ∈ W.qs ++ W.is, BindAny q) {n li : Nat} {q : Dd} {x : Str} (hq : W.qs[li]? = some q) (hdf : q.d.dfl = []) (hps : q.ps = [x]) (X : K.In h) (G : h.Ns mainGlobals mg) (c : He.SaysD W.fa W.fn K) (e : exB W.xs K = true) {fa : Addr} (hmg : mg q.d.at_.1 = some (.ref fa))
    (plain : ∀ ns : List Int, ns.length ≤ 63 → ∃ fu S, callN W.Pr fu n li [.scr (ns.map Val.int)] [] = .ok (.bl true) S) :
    ∃ (K : PySem.W.Frag) (fd : FuncData) (sp : Sp), K.In h ∧ (∀ (s : Shared) (u : Value), BindsTo s fd ⟨[u], []⟩ [(x, u)]) ∧
        (∀ (H : Hp) (a : Addr) (ns : List Int), ns.length ≤ 63 → Only H → SqL K H a (ns.map V.int) → sp [.ref a] H (fun v _ => v = .bl true) fun _ _ _ => False) ∧
        ∀ base : Heap, K.In base → base.Ns mainGlobals mg → FnG P w K mg base (n + 3) fa fd [x] sp := by
  have s0 := whole_says (P := P) (w := w) ok bd X G c e h
  obtain ⟨⟨y, hy, hm⟩, fd0, FD0, b0⟩ := s0.fn li q hq
  have hfa : (W.F K).fa li = fa := by
    have hyq : y = q.d.at_.1 := by
      have o2 : W.T.fn = W.qs.map (·.d.at_.1) := by
        unfold Whole.ok at ok
        simp only [Bool.and_eq_true, decide_eq_true_eq] at ok
        exact ok.1.1.1.1.1.1.1.2
      rw [o2, List.getElem?_map, hq] at hy
      exact (Option.some.inj hy).symm
    rw [hyq, hmg] at hm
    injection (Option.some.inj hm) with z
    exact z.symm
  have e0 : q.d.dvs K = [] := by unfold He.DefD.dvs; rw [hdf]; rfl
  have bok : BindOk q := by
    rcases bd q (List.mem_append_left _ (List.mem_of_getElem? hq)) with ⟨_, h⟩ | ⟨h, _⟩
    · exact h
    · exact absurd hdf h
  have FD1 := FD0
  rw [e0] at FD1
  refine ⟨K, fd0, SpL (W.F K) W.Pr n li, X, fun s u => ?_, fun H a ns hn _ hS => sp_script rfl hS (plain ns hn), fun base KX hb => ?_⟩
  · have z := FD1.bindsA (ps := q.ps) bok s [u] (by rw [hps]; rfl)
    rw [hps] at z
    exact z
  · have s1 := whole_says (P := P) (w := w) ok bd X G c e base
    refine ⟨fun A outer s H args us vs Q E hr gd e0 bt rv ⟨fu, J, r, S, xs, w0, t, hv, p⟩ => ?_⟩
    have Fn := prog_fn s1 fu n li q fd0 hq FD0
    rw [hfa, hps] at Fn
    have hnp : npOf W.qs li = 1 := by unfold npOf; rw [hq]; show q.ps.length = 1; rw [hps]; rfl
    exact Fn.run A outer s H args us vs Q E hr gd e0 bt rv ⟨J, r, S, xs, w0, t, by rw [hv, hnp], p⟩
end
end GW
/-! Core 26: the evaluator, said for simp; sizes of numbers. -/
namespace GW
open PySem
section
variable {O : Om} {en : Enm} {S : Store}
@[simp] theorem ev_cst (v : Val) : evE O (.cst v) en S = .ok v S := rfl
@[simp] theorem ev_var (i : Nat) : evE O (.var i) en S = getS en i S := rfl
@[simp] theorem ev_glo (x : Str) (v : Val) : evE O (.glo x v) en S = .ok v S := rfl
@[simp] theorem ev_bin (o : Bop) (a b : E) : evE O (.bin o a b) en S = (evE O a en S).bind fun x S1 => (evE O b en S1).bind fun y S2 => bopV o x y S2 := rfl
@[simp] theorem ev_neg (a : E) : evE O (.neg a) en S = (evE O a en S).bind negV := rfl
@[simp] theorem ev_not (a : E) : evE O (.not a) en S = (evE O a en S).bind fun x S1 => (truR x S1).bind fun c S2 => .ok (.bl (!c)) S2 := rfl
@[simp] theorem ev_and (a b : E) : evE O (.and a b) en S = (evE O a en S).bind fun x S1 => (truR x S1).bind fun c S2 => if c = true then evE O b en S2 else .ok x S2 := rfl
@[simp] theorem ev_or (a b : E) : evE O (.or a b) en S = (evE O a en S).bind fun x S1 => (truR x S1).bind fun c S2 => if c = true then .ok x S2 else evE O b en S2 := rfl
@[simp] theorem ev_cmp (o : Cop) (a b : E) : evE O (.cmp o a b) en S = (evE O a en S).bind fun x S1 => (evE O b en S1).bind fun y S2 => optB S2 (cmpE o x y S2) := rfl
@[simp] theorem ev_chn (o p : Cop) (a b c : E) : evE O (.chn o p a b c) en S = (evE O a en S).bind fun x S1 => (evE O b en S1).bind fun y S2 => match cmpE o x y S2 with
    | some true => (evE O c en S2).bind fun z S3 => optB S3 (cmpE p y z S3)
    | some false => .ok (.bl false) S2
    | none => .stk := rfl
@[simp] theorem ev_ife (c a b : E) : evE O (.ife c a b) en S = (evE O c en S).bind fun x S1 => (truR x S1).bind fun d S2 => if d = true then evE O a en S2 else evE O b en S2 := rfl
@[simp] theorem ev_isi (a : E) (ts : List String) : evE O (.isi a ts) en S = (evE O a en S).bind fun x S1 => optB S1 (isiE S1 x ts) := rfl
@[simp] theorem ev_idx (a i : E) : evE O (.idx a i) en S = (evE O a en S).bind fun x S1 => (evE O i en S1).bind fun y S2 => idxV x y S2 := rfl
@[simp] theorem ev_slc (a : E) (lo hi : Po) : evE O (.slc a lo hi) en S = (evE O a en S).bind fun x S1 => (evP O lo en S1).bind fun l S2 => (evP O hi en S2).bind fun h S3 => slcV x l h S3 := rfl
@[simp] theorem ev_slcR (a : E) (lo hi : Po) : evE O (.slcR a lo hi) en S = (evE O a en S).bind fun x S1 => (evP O lo en S1).bind fun l S2 => (evP O hi en S2).bind fun h S3 => slcRV x l h S3 := rfl
@[simp] theorem ev_tpd (es : Es) : evE O (.tpd es) en S = (evs O es en S).bind fun xs S1 => mkT xs S1 := rfl
@[simp] theorem ev_lsd (b : Bool) (es : Es) : evE O (.lsd b es) en S = (evs O es en S).bind fun xs S1 => mkL b xs S1 := rfl
@[simp] theorem ev_dcd (ks vs : Es) : evE O (.dcd ks vs) en S = (evs O ks en S).bind fun ks S1 => (evs O vs en S1).bind fun vs S2 => mkD ks vs S2 := rfl
@[simp] theorem ev_blt (f : Blt) (es : Es) : evE O (.blt f es) en S = (evs O es en S).bind fun xs S1 => bltV f xs S1 := rfl
@[simp] theorem ev_call (f : Nat) (es : Es) : evE O (.call f es) en S = (evs O es en S).bind fun xs S1 => O.call f xs S1 := rfl
@[simp] theorem ev_callv (i : Nat) (es : Es) : evE O (.callv i es) en S = match en[i]? with
    | some (some (.fn f)) => if f < O.nf then (evs O es en S).bind fun xs S1 => O.call f xs S1 else .stk
    | _ => .stk := rfl
@[simp] theorem ev_mth (m : Mth) (o : E) (es : Es) : evE O (.mth m o es) en S = (evE O o en S).bind fun x S1 => if tyOk m x S1 = true then (evs O es en S1).bind fun xs S2 => mthV m x xs S2 else .stk := rfl
@[simp] theorem ev_lc (b : Bool) (t : Tg) (it : It) (cs : Es) (e : E) : evE O (.lc b t it cs e) en S = (evI O it en S).bind fun wk S1 => (lcF wk.cs wk.xs t (fun en' S' => evC O cs en' S') (fun en' S' => evE O e en' S') en wk.its [] S1).bind fun ys S2 => mkL b ys S2 := rfl
@[simp] theorem ev_efl (p c j : Nat) : evE O (.efl p c j) en S = match en[p]? with
    | some (some (.exc c' fs)) => if c' = c then oV fs[j]? S else .stk
    | _ => .stk := rfl
@[simp] theorem ev_callD (f : Nat) (es : Es) (ds : List Val) : evE O (.callD f es ds) en S = (evs O es en S).bind fun xs S1 => O.call f (xs ++ ds) S1 := rfl
@[simp] theorem ev_eisi (p c : Nat) (ks : List Nat) (b : Bool) : evE O (.eisi p c ks b) en S = match en[p]? with
    | some (some (.exc c' fs)) => if c' = c then .ok (.bl (ks.any fun k => O.sub c k)) S else .stk
    | _ => .stk := rfl
@[simp] theorem evs_n : evs O .nil en S = .ok [] S := rfl
@[simp] theorem evs_c (e : E) (es : Es) : evs O (.cons e es) en S = (evE O e en S).bind fun x S1 => (evs O es en S1).bind fun xs S2 => .ok (x :: xs) S2 := rfl
@[simp] theorem evp_n : evP O .no en S = .ok none S := rfl
@[simp] theorem evp_y (e : E) : evP O (.yes e) en S = (evE O e en S).bind fun x S1 => match x with
    | .int i => .ok (some i) S1
    | _ => .stk := rfl
@[simp] theorem evc_n : evC O .nil en S = .ok true S := rfl
@[simp] theorem evc_c (e : E) (es : Es) : evC O (.cons e es) en S = (evE O e en S).bind fun x S1 => (truR x S1).bind fun c S2 => if c = true then evC O es en S2 else .ok false S2 := rfl
@[simp] theorem evi_val (e : E) : evI O (.val e) en S = (evE O e en S).bind fun v S1 => match items S1 v with
    | some xs => .ok ⟨[v], [xs], xs⟩ S1
    | none => .stk := rfl
@[simp] theorem evi_rng1 (e : E) : evI O (.rng1 e) en S = (evE O e en S).bind rng1W := rfl
@[simp] theorem evi_rng2 (a b : E) : evI O (.rng2 a b) en S = (evE O a en S).bind fun v S1 => (evE O b en S1).bind fun u S2 => rng2W v u S2 := rfl
@[simp] theorem evi_enm (e : E) : evI O (.enm e) en S = (evE O e en S).bind fun v S1 => enmW v S1 := rfl
@[simp] theorem evi_zip (a b : E) : evI O (.zip a b) en S = (evE O a en S).bind fun v S1 => (evE O b en S1).bind fun u S2 => zipW v u S2 := rfl
@[simp] theorem evi_rev (e : E) : evI O (.rev e) en S = (evE O e en S).bind fun v S1 => revW v S1 := rfl
@[simp] theorem ex_set (i : Nat) (e : E) : exC O (.set i e) en S = (evE O e en S).to en fun v S1 => .nx (en.set i (some v)) S1 := rfl
@[simp] theorem ex_tset (is : List Nat) (e : E) : exC O (.tset is e) en S = (evE O e en S).to en fun v S1 => match putT (.tup is) v en with
    | some en' => .nx en' S1
    | none => .stk := rfl
@[simp] theorem ex_par (i j : Nat) (a b : E) : exC O (.par i j a b) en S = (evE O a en S).to en fun x S1 => (evE O b en S1).to en fun y S2 => .nx ((en.set i (some x)).set j (some y)) S2 := rfl
@[simp] theorem ex_sset (a i e : E) : exC O (.sset a i e) en S = (evE O e en S).to en fun v S1 => (evE O a en S1).to en fun x S2 => (evE O i en S2).to en fun k S3 => match setSub x k v S3 with
    | some S4 => .nx en S4
    | none => .stk := rfl
@[simp] theorem ex_exp (e : E) : exC O (.exp e) en S = (evE O e en S).to en fun _ S1 => .nx en S1 := rfl
@[simp] theorem ex_ret (e : E) : exC O (.ret e) en S = (evE O e en S).to en fun v S1 => .rt v S1 := rfl
@[simp] theorem ex_retN : exC O .retN en S = .rt .non S := rfl
@[simp] theorem ex_pas : exC O .pas en S = .nx en S := rfl
@[simp] theorem ex_ife (c : E) (a b : Cs) : exC O (.ife c a b) en S = ((evE O c en S).bind truR).to en fun d S1 => if d = true then exS O a en S1 else exS O b en S1 := rfl
theorem ex_whl (c : E) (b : Cs) : exC O (.whl c b) en S = whlF (fun en S => (evE O c en S).bind truR) (fun en S => exS O b en S) O.fu en S := rfl
@[simp] theorem ex_forr (t : Tg) (it : It) (b : Cs) : exC O (.forr t it b) en S = (evI O it en S).to en fun wk S1 => forF wk.cs wk.xs t (fun en S => exS O b en S) wk.its en S1 := rfl
@[simp] theorem ex_rai (c : Nat) (es : Es) : exC O (.rai c es) en S = (evs O es en S).to en fun xs S1 => .ex c xs.reverse en S1 := rfl
@[simp] theorem ex_tri (b : Cs) (hs : Hs) : exC O (.tri b hs) en S = match exS O b en S with
    | .ex c fs en' S' => if c < O.nc then exH O hs c fs en' S' else .stk
    | o => o := rfl
@[simp] theorem exs_n : exS O .nil en S = .nx en S := rfl
@[simp] theorem exs_c (c : C) (cs : Cs) : exS O (.cons c cs) en S = (exC O c en S).then fun en' S' => exS O cs en' S' := rfl
@[simp] theorem exh_n (c : Nat) (fs : List Val) : exH O .nil c fs en S = .ex c fs en S := rfl
@[simp] theorem exh_c (k : Nat) (i : Option Nat) (b : Cs) (hs : Hs) (c : Nat) (fs : List Val) : exH O (.cons k i b hs) c fs en S = if O.sub c k = true then (match i with
    | some i => if c = k then (exS O b (en.set i none ++ [some (.exc c fs)]) S).out en.length i else .stk
    | none => (exS O b en S).noX) else exH O hs c fs en S := by
  cases i <;> rfl
@[simp] theorem get_s (v : Val) (i : Nat) (h : en[i]? = some (some v)) : getS en i S = .ok v S := by unfold getS; rw [h]
@[simp] theorem oV_s (v : Val) : oV (some v) S = .ok v S := rfl
@[simp] theorem optB_s (b : Bool) : optB S (some b) = .ok (.bl b) S := rfl
@[simp] theorem neg_int (i : Int) : negV (.int i) S = .ok (.int (-i)) S := rfl
@[simp] theorem tru_bl (b : Bool) : truR (.bl b) S = .ok b S := rfl
@[simp] theorem bop_add_int (i j : Int) : bopV .add (.int i) (.int j) S = .ok (.int (i + j)) S := rfl
@[simp] theorem bop_sub_int (i j : Int) : bopV .sub (.int i) (.int j) S = .ok (.int (i - j)) S := rfl
theorem bop_mul_int {i j : Int} (h : mulOk i j = true) : bopV .mul (.int i) (.int j) S = .ok (.int (i * j)) S := if_pos h
theorem bop_div_int {i j : Int} (h : divOk i j = true) : bopV .div (.int i) (.int j) S = .ok (.int (i.fdiv j)) S := if_pos h
theorem bop_mod_int {i j : Int} (h : j ≠ 0) : bopV .mod (.int i) (.int j) S = .ok (.int (i.fmod j)) S := if_pos h
theorem bop_pow_int {i j : Int} (h : powOk i j = true) : bopV .pow (.int i) (.int j) S = .ok (.int (i ^ j.toNat)) S := if_pos h
end
/-! ### sizes -/
theorem bits_le {i : Int} {n : Nat} (h : i.natAbs < 2 ^ n) : Builtin.Int.intBits i ≤ n := by
  unfold Builtin.Int.intBits
  split
  · exact Nat.zero_le _
  · rename_i hz
    have h0 : i.natAbs ≠ 0 := by
      intro z
      have : i = 0 := Int.natAbs_eq_zero.mp z
      subst this
      exact hz rfl
    exact (Nat.log2_lt h0).mpr h
theorem mulOk_l {i j : Int} (h : i.natAbs < 2 ^ 64) : mulOk i j = true := by
  have := bits_le h
  unfold mulOk
  have e : decide (Builtin.Int.intBits i > shortFactorBits) = false := decide_eq_false (by unfold shortFactorBits; omega)
  rw [e]
  rfl
theorem mulOk_r {i j : Int} (h : j.natAbs < 2 ^ 64) : mulOk i j = true := by
  have := bits_le h
  unfold mulOk
  have e : decide (Builtin.Int.intBits j > shortFactorBits) = false := decide_eq_false (by unfold shortFactorBits; omega)
  rw [e]
  simp
theorem mulOk_b {i j : Int} {n m : Nat} (h : i.natAbs < 2 ^ n) (h' : j.natAbs < 2 ^ m) (hs : n + m ≤ 100000000) : mulOk i j = true := by
  have h1 := bits_le h
  have h2 := bits_le h'
  unfold mulOk
  have e : Builtin.Int.intTooBig ((Builtin.Int.intBits i : Int) + Builtin.Int.intBits j) = false := by
    unfold Builtin.Int.intTooBig
    refine decide_eq_false ?_
    have hb : (100000000 : Int) ≤ (bitsLine : Int) := by decide
    omega
  rw [e]
  simp
theorem divOk_b {i j : Int} (h0 : j ≠ 0) (h : j.natAbs < 2 ^ 9000) : divOk i j = true := by
  unfold divOk
  have hz : j.natAbs ≠ 0 := fun z => h0 (Int.natAbs_eq_zero.mp z)
  rw [decide_eq_true h0, PyProof.noPylong_of_log2 ((Nat.log2_lt hz).mpr h)]
  rfl
end GW
namespace K03
open PySem GW
def tp (i : Nat) : Stmt := PySem.Challenge.pw_guesswalk_k03_ratio_texts.main.body.getD i (.Pass ⟨0, 0, 0, 0⟩)
def tm (i j : Nat) : Stmt := match tp i with
  | .ClassDef _ _ _ b _ _ _ _ _ _ _ => b.getD j (.Pass ⟨0, 0, 0, 0⟩)
  | _ => .Pass ⟨0, 0, 0, 0⟩
def b_is_number : Cs := (.cons (.ret (.and (.isi (.var 0) ["int"]) (.not (.isi (.var 0) ["bool"]))))
  .nil)
def b_are_figures : Cs := (.cons (.ife (.or (.cmp .eq (.var 0) (.cst (.str ""))) (.not (.blt .all (.cons (.lc false (.one 1) (.val (.var 0)) .nil (.cmp .inn (.var 1) (.glo "FIGURES" (.str "0123456789")))) .nil)))) (.cons (.ret (.cst (.bl false)))
    .nil) .nil)
  (.cons (.ret (.or (.cmp .eq (.var 0) (.cst (.str "0"))) (.cmp .ne (.idx (.var 0) (.cst (.int 0))) (.cst (.str "0")))))
  .nil))
def b_number_in : Cs := (.cons (.ife (.not (.isi (.var 0) ["str"])) (.cons (.ret (.cst .non))
    .nil) .nil)
  (.cons (.ife (.call 1 (.cons (.var 0) .nil)) (.cons (.ret (.blt .int (.cons (.var 0) .nil)))
    .nil) .nil)
  (.cons (.ife (.and (.cmp .eq (.slc (.var 0) .no (.yes (.cst (.int 1)))) (.cst (.str "-"))) (.and (.call 1 (.cons (.slc (.var 0) (.yes (.cst (.int 1))) .no) .nil)) (.cmp .ne (.var 0) (.cst (.str "-0"))))) (.cons (.ret (.bin .sub (.cst (.int 0)) (.blt .int (.cons (.slc (.var 0) (.yes (.cst (.int 1))) .no) .nil))))
    .nil) .nil)
  (.cons (.ret (.cst .non))
  .nil))))
def b_common_part : Cs := (.cons (.set 0 (.blt .abs (.cons (.var 0) .nil)))
  (.cons (.set 1 (.blt .abs (.cons (.var 1) .nil)))
  (.cons (.whl (.cmp .gt (.var 1) (.cst (.int 0))) (.cons (.par 0 1 (.var 1) (.bin .mod (.var 0) (.var 1)))
    .nil))
  (.cons (.ret (.var 0))
  .nil))))
def b_is_ratio : Cs := (.cons (.ife (.or (.not (.isi (.var 0) ["tuple"])) (.or (.cmp .ne (.blt .len (.cons (.var 0) .nil)) (.cst (.int 2))) (.or (.not (.call 0 (.cons (.idx (.var 0) (.cst (.int 0))) .nil))) (.not (.call 0 (.cons (.idx (.var 0) (.cst (.int 1))) .nil)))))) (.cons (.ret (.cst (.bl false)))
    .nil) .nil)
  (.cons (.ret (.and (.cmp .gt (.idx (.var 0) (.cst (.int 1))) (.cst (.int 0))) (.cmp .eq (.call 3 (.cons (.idx (.var 0) (.cst (.int 0))) (.cons (.idx (.var 0) (.cst (.int 1))) .nil))) (.cst (.int 1)))))
  .nil))
def b_need_ratio : Cs := (.cons (.ife (.not (.call 4 (.cons (.var 0) .nil))) (.cons (.rai 1 (.cons (.var 0) .nil))
    .nil) .nil)
  .nil)
def b_ratio_text : Cs := (.cons (.exp (.call 5 (.cons (.var 0) .nil)))
  (.cons (.ife (.cmp .eq (.idx (.var 0) (.cst (.int 1))) (.cst (.int 1))) (.cons (.ret (.blt .str (.cons (.idx (.var 0) (.cst (.int 0))) .nil)))
    .nil) .nil)
  (.cons (.ret (.bin .add (.bin .add (.blt .str (.cons (.idx (.var 0) (.cst (.int 0))) .nil)) (.cst (.str "/"))) (.blt .str (.cons (.idx (.var 0) (.cst (.int 1))) .nil))))
  .nil)))
def b_ratio_in : Cs := (.cons (.ife (.not (.isi (.var 0) ["str"])) (.cons (.ret (.cst .non))
    .nil) .nil)
  (.cons (.set 1 (.mth .split (.var 0) (.cons (.cst (.str "/")) .nil)))
  (.cons (.set 2 (.lc false (.one 3) (.val (.var 1)) .nil (.call 2 (.cons (.var 3) .nil))))
  (.cons (.ife (.and (.cmp .eq (.blt .len (.cons (.var 1) .nil)) (.cst (.int 1))) (.cmp .isn (.idx (.var 2) (.cst (.int 0))) (.cst .non))) (.cons (.ret (.tpd (.cons (.idx (.var 2) (.cst (.int 0))) (.cons (.cst (.int 1)) .nil))))
    .nil) .nil)
  (.cons (.ife (.or (.cmp .ne (.blt .len (.cons (.var 1) .nil)) (.cst (.int 2))) (.or (.cmp .is (.idx (.var 2) (.cst (.int 0))) (.cst .non)) (.or (.cmp .is (.idx (.var 2) (.cst (.int 1))) (.cst .non)) (.cmp .lt (.idx (.var 2) (.cst (.int 1))) (.cst (.int 2)))))) (.cons (.ret (.cst .non))
    .nil) .nil)
  (.cons (.ife (.cmp .ne (.call 3 (.cons (.idx (.var 2) (.cst (.int 0))) (.cons (.idx (.var 2) (.cst (.int 1))) .nil))) (.cst (.int 1))) (.cons (.ret (.cst .non))
    .nil) .nil)
  (.cons (.ret (.tpd (.cons (.idx (.var 2) (.cst (.int 0))) (.cons (.idx (.var 2) (.cst (.int 1))) .nil))))
  .nil)))))))
def b_law_cell : Cs := (.cons (.ife (.cmp .lt (.var 1) (.blt .len (.cons (.var 0) .nil))) (.cons (.ret (.idx (.var 0) (.var 1)))
    .nil) .nil)
  (.cons (.ret (.bin .add (.bin .mul (.cst (.int 7919)) (.var 1)) (.cst (.int 13))))
  .nil))
def b_law_purse : Cs := (.cons (.ret (.lsd true (.cons (.idx (.lsd false (.cons (.cst (.int 0)) (.cons (.var 0) .nil))) (.blt .int (.cons (.cmp .ge (.var 0) (.bin .pow (.cst (.int 10)) (.cst (.int 18)))) .nil))) (.cons (.bin .mod (.var 0) (.cst (.int 2147483629))) (.cons (.cst (.int 0)) .nil)))))
  .nil)
def b_law_take : Cs := (.cons (.ife (.cmp .gt (.idx (.var 0) (.cst (.int 0))) (.cst (.int 0))) (.cons (.set 4 (.bin .mod (.idx (.var 0) (.cst (.int 0))) (.var 1)))
    (.cons (.sset (.var 0) (.cst (.int 0)) (.bin .div (.idx (.var 0) (.cst (.int 0))) (.var 1)))
    (.cons (.ret (.var 4))
    .nil))) .nil)
  (.cons (.sset (.var 0) (.cst (.int 2)) (.bin .add (.idx (.var 0) (.cst (.int 2))) (.cst (.int 1))))
  (.cons (.set 2 (.bin .mod (.bin .mul (.bin .add (.idx (.var 0) (.cst (.int 1))) (.cst (.int 11))) (.bin .add (.bin .mul (.cst (.int 2)) (.idx (.var 0) (.cst (.int 2)))) (.cst (.int 5)))) (.cst (.int 2147483647))))
  (.cons (.set 3 (.bin .mod (.bin .mul (.var 2) (.var 2)) (.cst (.int 2147483647))))
  (.cons (.set 3 (.bin .mod (.bin .mul (.bin .mod (.bin .mul (.var 3) (.var 3)) (.cst (.int 2147483629))) (.var 2)) (.cst (.int 2147483587))))
  (.cons (.ret (.bin .mod (.bin .div (.bin .mod (.bin .add (.var 3) (.bin .mul (.cst (.int 7)) (.idx (.var 0) (.cst (.int 2))))) (.cst (.int 2147483579))) (.cst (.int 32))) (.var 1)))
  .nil))))))
def b_law_sign : Cs := (.cons (.set 1 (.cst (.str " !\"#$&'()*+,-./0123456789:;<=>?@ABCDEFGHIJKLMNOPQRSTUVWXYZ[\\]^_`")))
  (.cons (.set 1 (.bin .add (.var 1) (.cst (.str "abcdefghijklmnopqrstuvwxyz{|}~\n"))))
  (.cons (.ret (.idx (.var 1) (.call 10 (.cons (.var 0) (.cons (.blt .len (.cons (.var 1) .nil)) .nil)))))
  .nil)))
def b_law_bent : Cs := (.cons (.set 4 (.bin .mod (.var 3) (.bin .add (.blt .len (.cons (.var 1) .nil)) (.cst (.int 1)))))
  (.cons (.ife (.cmp .eq (.var 2) (.cst (.int 0))) (.cons (.ret (.bin .add (.bin .add (.slc (.var 1) .no (.yes (.var 4))) (.call 11 (.cons (.var 0) .nil))) (.slc (.var 1) (.yes (.var 4)) .no)))
    .nil) .nil)
  (.cons (.ife (.cmp .eq (.var 2) (.cst (.int 1))) (.cons (.ret (.bin .add (.slc (.var 1) .no (.yes (.var 4))) (.slc (.var 1) (.yes (.bin .add (.var 4) (.cst (.int 1)))) .no)))
    .nil) .nil)
  (.cons (.ife (.cmp .eq (.var 2) (.cst (.int 2))) (.cons (.ret (.bin .add (.bin .add (.slc (.var 1) .no (.yes (.var 4))) (.call 11 (.cons (.var 0) .nil))) (.slc (.var 1) (.yes (.bin .add (.var 4) (.cst (.int 1)))) .no)))
    .nil) .nil)
  (.cons (.ret (.bin .add (.bin .add (.slc (.var 1) .no (.yes (.var 4))) (.slc (.var 1) (.yes (.var 4)) (.yes (.bin .add (.var 4) (.cst (.int 1)))))) (.slc (.var 1) (.yes (.var 4)) .no)))
  .nil)))))
def b_law_number : Cs := (.cons (.set 1 (.call 10 (.cons (.var 0) (.cons (.cst (.int 16)) .nil))))
  (.cons (.set 2 (.bin .sub (.cst (.int 1)) (.bin .mul (.cst (.int 2)) (.call 10 (.cons (.var 0) (.cons (.cst (.int 2)) .nil))))))
  (.cons (.ife (.cmp .eq (.var 1) (.cst (.int 15))) (.cons (.set 3 (.call 10 (.cons (.var 0) (.cons (.bin .pow (.cst (.int 10)) (.cst (.int 4))) .nil))))
    (.cons (.forr (.one 4) (.rng1 (.cst (.int 4))) (.cons (.set 3 (.bin .add (.bin .mul (.var 3) (.bin .pow (.cst (.int 10)) (.cst (.int 6)))) (.call 10 (.cons (.var 0) (.cons (.bin .pow (.cst (.int 10)) (.cst (.int 6))) .nil)))))
      .nil))
    (.cons (.ret (.bin .mul (.var 2) (.var 3)))
    .nil))) .nil)
  (.cons (.ret (.bin .mul (.var 2) (.call 10 (.cons (.var 0) (.cons (.idx (.lsd false (.cons (.cst (.int 10)) (.cons (.cst (.int 1000)) .nil))) (.blt .int (.cons (.cmp .gt (.var 1) (.cst (.int 12))) .nil))) .nil)))))
  .nil))))
def b_law_common : Cs := (.cons (.whl (.cmp .ne (.var 1) (.cst (.int 0))) (.cons (.par 0 1 (.var 1) (.bin .mod (.var 0) (.var 1)))
    .nil))
  (.cons (.ret (.blt .abs (.cons (.var 0) .nil)))
  .nil))
def b_law_low : Cs := (.cons (.set 2 (.call 14 (.cons (.var 0) (.cons (.var 1) .nil))))
  (.cons (.ife (.cmp .lt (.var 1) (.cst (.int 0))) (.cons (.set 2 (.bin .sub (.cst (.int 0)) (.var 2)))
    .nil) .nil)
  (.cons (.ret (.tpd (.cons (.bin .div (.var 0) (.var 2)) (.cons (.bin .div (.var 1) (.var 2)) .nil))))
  .nil)))
def b_law_ratio : Cs := (.cons (.set 1 (.call 13 (.cons (.var 0) .nil)))
  (.cons (.ret (.call 15 (.cons (.var 1) (.cons (.bin .add (.cst (.int 1)) (.bin .mod (.blt .abs (.cons (.call 13 (.cons (.var 0) .nil)) .nil)) (.idx (.lsd false (.cons (.cst (.int 4)) (.cons (.cst (.int 4)) (.cons (.cst (.int 100)) (.cons (.bin .sub (.bin .pow (.cst (.int 10)) (.cst (.int 30))) (.cst (.int 1))) .nil))))) (.call 10 (.cons (.var 0) (.cons (.cst (.int 4)) .nil)))))) .nil))))
  .nil))
def b_law_is_ratio : Cs := (.cons (.ife (.or (.not (.isi (.var 0) ["tuple"])) (.cmp .ne (.blt .len (.cons (.var 0) .nil)) (.cst (.int 2)))) (.cons (.ret (.cst (.bl false)))
    .nil) .nil)
  (.cons (.forr (.one 1) (.val (.var 0)) (.cons (.ife (.or (.not (.isi (.var 1) ["int"])) (.isi (.var 1) ["bool"])) (.cons (.ret (.cst (.bl false)))
      .nil) .nil)
    .nil))
  (.cons (.ret (.and (.cmp .gt (.idx (.var 0) (.cst (.int 1))) (.cst (.int 0))) (.cmp .eq (.call 14 (.cons (.idx (.var 0) (.cst (.int 0))) (.cons (.idx (.var 0) (.cst (.int 1))) .nil))) (.cst (.int 1)))))
  .nil)))
def b_law_same : Cs := (.cons (.ret (.and (.call 17 (.cons (.var 0) .nil)) (.cmp .eq (.var 0) (.var 1))))
  .nil)
def b_law_no_ratio : Cs := (.cons (.tset [3, 4] (.var 1))
  (.cons (.set 2 (.lsd false (.cons (.lsd true (.cons (.var 3) (.cons (.var 4) .nil))) (.cons (.tpd (.cons (.var 3) .nil)) (.cons (.tpd (.cons (.var 3) (.cons (.var 4) (.cons (.cst (.int 1)) .nil)))) (.cons (.tpd (.cons (.bin .mul (.cst (.int 2)) (.var 3)) (.cons (.bin .mul (.cst (.int 2)) (.var 4)) .nil))) (.cons (.tpd (.cons (.bin .sub (.cst (.int 0)) (.var 3)) (.cons (.bin .sub (.cst (.int 0)) (.var 4)) .nil))) (.cons (.tpd (.cons (.var 3) (.cons (.cst (.int 0)) .nil))) (.cons (.tpd (.cons (.cst (.bl true)) (.cons (.cst (.int 1)) .nil))) .nil)))))))))
  (.cons (.set 2 (.bin .add (.var 2) (.lsd false (.cons (.tpd (.cons (.var 3) (.cons (.cst (.bl true)) .nil))) (.cons (.tpd (.cons (.cst .non) (.cons (.cst (.int 1)) .nil))) (.cons (.var 3) (.cons (.cst (.str "1/2")) (.cons (.cst .non) (.cons (.tpd (.cons (.cst (.str "1")) (.cons (.cst (.int 2)) .nil))) (.cons (.tpd (.cons (.var 1) (.cons (.cst (.int 1)) .nil))) (.cons (.dcd .nil .nil) (.cons (.cst (.bl true)) (.cons (.tpd .nil) (.cons (.lsd true (.cons (.var 1) .nil)) (.cons (.tpd (.cons (.cst (.bl false)) (.cons (.cst (.int 1)) .nil))) (.cons (.cst (.int 0)) .nil))))))))))))))))
  (.cons (.ret (.idx (.var 2) (.call 10 (.cons (.var 0) (.cons (.cst (.int 20)) .nil)))))
  .nil))))
def b_law_reads : Cs := (.cons (.set 1 (.slc (.var 0) (.yes (.blt .int (.cons (.cmp .eq (.slc (.var 0) .no (.yes (.cst (.int 1)))) (.cst (.str "-"))) .nil))) .no))
  (.cons (.ife (.or (.cmp .eq (.var 1) (.cst (.str ""))) (.cmp .ne (.lc false (.one 3) (.val (.var 1)) (.cons (.cmp .nin (.var 3) (.cst (.str "0123456789"))) .nil) (.var 3)) (.lsd false .nil))) (.cons (.ret (.cst .non))
    .nil) .nil)
  (.cons (.ife (.and (.cmp .eq (.idx (.var 1) (.cst (.int 0))) (.cst (.str "0"))) (.cmp .ne (.var 0) (.cst (.str "0")))) (.cons (.ret (.cst .non))
    .nil) .nil)
  (.cons (.set 2 (.cst (.int 0)))
  (.cons (.forr (.one 3) (.val (.var 1)) (.cons (.set 2 (.bin .add (.bin .mul (.cst (.int 10)) (.var 2)) (.mth .sindex (.cst (.str "0123456789")) (.cons (.var 3) .nil))))
    .nil))
  (.cons (.ret (.bin .mul (.var 2) (.bin .sub (.cst (.int 1)) (.bin .mul (.cst (.int 2)) (.blt .int (.cons (.cmp .eq (.idx (.var 0) (.cst (.int 0))) (.cst (.str "-"))) .nil))))))
  .nil))))))
def b_law_due : Cs := (.cons (.ife (.not (.isi (.var 0) ["str"])) (.cons (.ret (.cst .non))
    .nil) .nil)
  (.cons (.tset [3, 4, 5] (.mth .partition (.var 0) (.cons (.cst (.str "/")) .nil)))
  (.cons (.set 1 (.call 20 (.cons (.var 3) .nil)))
  (.cons (.ife (.cmp .eq (.var 4) (.cst (.str ""))) (.cons (.ret (.idx (.lsd false (.cons (.tpd (.cons (.var 1) (.cons (.cst (.int 1)) .nil))) (.cons (.cst .non) .nil))) (.blt .int (.cons (.cmp .is (.var 1) (.cst .non)) .nil))))
    .nil) .nil)
  (.cons (.set 2 (.call 20 (.cons (.var 5) .nil)))
  (.cons (.ife (.or (.cmp .is (.var 1) (.cst .non)) (.or (.cmp .is (.var 2) (.cst .non)) (.or (.cmp .lt (.var 2) (.cst (.int 2))) (.cmp .ne (.call 14 (.cons (.var 1) (.cons (.var 2) .nil))) (.cst (.int 1)))))) (.cons (.ret (.cst .non))
    .nil) .nil)
  (.cons (.ret (.tpd (.cons (.var 1) (.cons (.var 2) .nil))))
  .nil)))))))
def b_law_right : Cs := (.cons (.set 1 (.call 7 (.cons (.var 0) .nil)))
  (.cons (.set 2 (.call 21 (.cons (.var 0) .nil)))
  (.cons (.ife (.cmp .is (.var 2) (.cst .non)) (.cons (.ret (.cmp .is (.var 1) (.cst .non)))
    .nil) .nil)
  (.cons (.ret (.and (.call 18 (.cons (.var 1) (.cons (.var 2) .nil))) (.cmp .eq (.call 6 (.cons (.var 1) .nil)) (.var 0))))
  .nil))))
def b_law_refused : Cs := (.cons (.set 1 (.cst .non))
  (.cons (.tri (.cons (.exp (.call 6 (.cons (.var 0) .nil)))
    .nil) (.cons 1 (some 2) (.cons (.set 1 (.lsd false (.cons (.efl 4 1 0) .nil)))
    .nil) .nil))
  (.cons (.ife (.or (.cmp .is (.var 1) (.cst .non)) (.cmp .ne (.blt .repr (.cons (.var 1) .nil)) (.blt .repr (.cons (.lsd false (.cons (.var 0) .nil)) .nil)))) (.cons (.ret (.cst (.bl false)))
    .nil) .nil)
  (.cons (.ife (.isi (.var 0) ["list"]) (.cons (.exp (.mth .append (.var 0) (.cons (.cst (.str "more")) .nil)))
    (.cons (.set 3 (.cmp .eq (.blt .repr (.cons (.var 1) .nil)) (.blt .repr (.cons (.lsd false (.cons (.var 0) .nil)) .nil))))
    (.cons (.exp (.mth .pop (.var 0) .nil))
    (.cons (.ret (.var 3))
    .nil)))) .nil)
  (.cons (.ret (.cst (.bl true)))
  .nil)))))
def b_law_great : Cs := (.cons (.set 1 (.bin .add (.cst (.int 1)) (.call 10 (.cons (.var 0) (.cons (.cst (.int 3)) .nil)))))
  (.cons (.forr (.one 2) (.rng1 (.cst (.int 13))) (.cons (.set 1 (.bin .add (.bin .mul (.var 1) (.bin .pow (.cst (.int 10)) (.cst (.int 30)))) (.call 10 (.cons (.var 0) (.cons (.bin .pow (.cst (.int 10)) (.cst (.int 6))) .nil)))))
    .nil))
  (.cons (.ret (.bin .mul (.bin .add (.bin .mul (.var 1) (.bin .pow (.cst (.int 10)) (.cst (.int 9)))) (.call 10 (.cons (.var 0) (.cons (.bin .pow (.cst (.int 10)) (.cst (.int 6))) .nil)))) (.bin .sub (.cst (.int 1)) (.bin .mul (.cst (.int 2)) (.call 10 (.cons (.var 0) (.cons (.cst (.int 2)) .nil)))))))
  .nil)))
def b_law_great_right : Cs := (.cons (.set 1 (.call 15 (.cons (.call 24 (.cons (.var 0) .nil)) (.cons (.blt .abs (.cons (.call 24 (.cons (.var 0) .nil)) .nil)) .nil))))
  (.cons (.set 2 (.call 6 (.cons (.var 1) .nil)))
  (.cons (.set 3 (.bin .add (.blt .str (.cons (.idx (.var 1) (.cst (.int 0))) .nil)) (.bin .mul (.bin .add (.cst (.str "/")) (.blt .str (.cons (.idx (.var 1) (.cst (.int 1))) .nil))) (.blt .int (.cons (.cmp .gt (.idx (.var 1) (.cst (.int 1))) (.cst (.int 1))) .nil)))))
  (.cons (.ret (.and (.cmp .eq (.var 2) (.var 3)) (.and (.call 18 (.cons (.call 7 (.cons (.var 2) .nil)) (.cons (.var 1) .nil))) (.cmp .is (.call 7 (.cons (.bin .add (.var 2) (.cst (.str "/"))) .nil)) (.cst .non)))))
  .nil))))
def b_law : Cs := (.cons (.forr (.one 1) (.rng1 (.blt .max2 (.cons (.cst (.int 2)) (.cons (.blt .min2 (.cons (.cst (.int 20)) (.cons (.blt .len (.cons (.var 0) .nil)) .nil))) .nil)))) (.cons (.set 2 (.call 9 (.cons (.call 8 (.cons (.var 0) (.cons (.var 1) .nil))) .nil)))
    (.cons (.set 3 (.call 10 (.cons (.var 2) (.cons (.cst (.int 12)) .nil))))
    (.cons (.set 4 (.call 10 (.cons (.var 2) (.cons (.cst (.int 64)) .nil))))
    (.cons (.ife (.and (.cmp .eq (.call 10 (.cons (.var 2) (.cons (.cst (.int 8)) .nil))) (.cst (.int 5))) (.not (.call 25 (.cons (.var 2) .nil)))) (.cons (.ret (.cst (.bl false)))
      .nil) .nil)
    (.cons (.set 5 (.call 16 (.cons (.var 2) .nil)))
    (.cons (.set 6 (.call 19 (.cons (.var 2) (.cons (.var 5) .nil))))
    (.cons (.tset [11, 12] (.var 5))
    (.cons (.set 7 (.bin .add (.blt .str (.cons (.var 11) .nil)) (.bin .mul (.bin .add (.cst (.str "/")) (.blt .str (.cons (.var 12) .nil))) (.blt .int (.cons (.cmp .gt (.var 12) (.cst (.int 1))) .nil)))))
    (.cons (.ife (.or (.cmp .ne (.call 6 (.cons (.var 5) .nil)) (.var 7)) (.not (.call 23 (.cons (.var 6) .nil)))) (.cons (.ret (.cst (.bl false)))
      .nil) .nil)
    (.cons (.set 8 (.var 7))
    (.cons (.ife (.cmp .lt (.var 3) (.cst (.int 9))) (.cons (.set 8 (.call 12 (.cons (.var 2) (.cons (.var 8) (.cons (.bin .mod (.bin .div (.var 3) (.cst (.int 2))) (.cst (.int 4))) (.cons (.var 4) .nil))))))
      .nil) .nil)
    (.cons (.set 9 (.blt .str (.cons (.bin .add (.cst (.int 2)) (.var 4)) .nil)))
    (.cons (.set 10 (.lsd false (.cons (.var 7) (.cons (.var 8) (.cons (.bin .add (.bin .add (.blt .str (.cons (.bin .mul (.cst (.int 2)) (.var 11)) .nil)) (.cst (.str "/"))) (.blt .str (.cons (.bin .mul (.cst (.int 2)) (.var 12)) .nil))) (.cons (.bin .add (.blt .str (.cons (.var 11) .nil)) (.cst (.str "/1"))) (.cons (.bin .add (.blt .str (.cons (.var 11) .nil)) (.cst (.str "/0"))) (.cons (.bin .add (.bin .add (.var 7) (.cst (.str "/"))) (.var 9)) .nil))))))))
    (.cons (.set 10 (.bin .add (.var 10) (.lsd false (.cons (.bin .add (.bin .add (.blt .str (.cons (.var 11) .nil)) (.cst (.str "/-"))) (.var 9)) (.cons (.bin .add (.cst (.str "0/")) (.var 9)) (.cons (.bin .add (.cst (.str "-0/")) (.var 9)) (.cons (.bin .add (.cst (.str "0")) (.var 7)) (.cons (.bin .add (.cst (.str "+")) (.var 7)) (.cons (.bin .add (.cst (.str "-")) (.var 7)) (.cons (.bin .add (.var 7) (.cst (.str " "))) .nil))))))))))
    (.cons (.set 10 (.bin .add (.var 10) (.lsd false (.cons (.bin .add (.cst (.str "/")) (.var 7)) (.cons (.bin .add (.var 7) (.cst (.str "/"))) (.cons (.bin .add (.bin .add (.blt .str (.cons (.var 11) .nil)) (.cst (.str " /"))) (.var 9)) (.cons (.bin .add (.bin .add (.blt .str (.cons (.var 11) .nil)) (.cst (.str "/0"))) (.var 9)) (.cons (.bin .add (.bin .add (.blt .str (.cons (.var 11) .nil)) (.cst (.str "/"))) (.var 9)) .nil))))))))
    (.cons (.set 10 (.bin .add (.var 10) (.lsd false (.cons (.var 9) (.cons (.bin .add (.cst (.str "-")) (.var 9)) (.cons (.bin .add (.var 7) (.cst (.str "\n"))) .nil))))))
    (.cons (.ife (.cmp .ne (.lc false (.one 13) (.val (.bin .add (.var 10) (.lsd false (.cons (.cst .non) (.cons (.cst (.int 5)) (.cons (.cst (.bl true)) (.cons (.var 5) (.cons (.lsd false (.cons (.var 7) .nil)) (.cons (.cst (.str "")) (.cons (.cst (.str "/")) (.cons (.cst (.str "-")) (.cons (.cst (.str "0")) (.cons (.cst (.int 0)) .nil))))))))))))) (.cons (.not (.call 22 (.cons (.var 13) .nil))) .nil) (.var 13)) (.lsd false .nil)) (.cons (.ret (.cst (.bl false)))
      .nil) .nil)
    .nil))))))))))))))))))
  (.cons (.ret (.cst (.bl true)))
  .nil))
def defs : List Df := [⟨1, 1, b_is_number⟩, ⟨1, 2, b_are_figures⟩, ⟨1, 1, b_number_in⟩, ⟨2, 2, b_common_part⟩, ⟨1, 1, b_is_ratio⟩, ⟨1, 1, b_need_ratio⟩, ⟨1, 1, b_ratio_text⟩, ⟨1, 4, b_ratio_in⟩, ⟨2, 2, b_law_cell⟩, ⟨1, 1, b_law_purse⟩, ⟨2, 5, b_law_take⟩, ⟨1, 2, b_law_sign⟩, ⟨4, 5, b_law_bent⟩, ⟨1, 5, b_law_number⟩, ⟨2, 2, b_law_common⟩, ⟨2, 3, b_law_low⟩, ⟨1, 2, b_law_ratio⟩, ⟨1, 2, b_law_is_ratio⟩, ⟨2, 2, b_law_same⟩, ⟨2, 5, b_law_no_ratio⟩, ⟨1, 4, b_law_reads⟩, ⟨1, 6, b_law_due⟩, ⟨1, 3, b_law_right⟩, ⟨1, 4, b_law_refused⟩, ⟨1, 3, b_law_great⟩, ⟨1, 4, b_law_great_right⟩, ⟨1, 14, b_law⟩]
def subs : List (List Nat) := [[0], [1, 0]]
def sub (c d : Nat) : Bool := (subs.getD c []).contains d
def Pr : Pg := ⟨defs, 2, sub⟩
def q_is_number : Dd := ⟨⟨("is_number", none), "is_number", "is_number", L2.defArgs (tp 5), L2.defBody (tp 5), L2.defScope (tp 5), [], []⟩, ["thing"], ["thing"]⟩
def q_are_figures : Dd := ⟨⟨("are_figures", none), "are_figures", "are_figures", L2.defArgs (tp 6), L2.defBody (tp 6), L2.defScope (tp 6), [], []⟩, ["text"], ["text", "sign"]⟩
def q_number_in : Dd := ⟨⟨("number_in", none), "number_in", "number_in", L2.defArgs (tp 7), L2.defBody (tp 7), L2.defScope (tp 7), [], []⟩, ["thing"], ["thing"]⟩
def q_common_part : Dd := ⟨⟨("common_part", none), "common_part", "common_part", L2.defArgs (tp 9), L2.defBody (tp 9), L2.defScope (tp 9), [], []⟩, ["one", "other"], ["one", "other"]⟩
def q_is_ratio : Dd := ⟨⟨("is_ratio", none), "is_ratio", "is_ratio", L2.defArgs (tp 10), L2.defBody (tp 10), L2.defScope (tp 10), [], []⟩, ["thing"], ["thing"]⟩
def q_need_ratio : Dd := ⟨⟨("need_ratio", none), "need_ratio", "need_ratio", L2.defArgs (tp 11), L2.defBody (tp 11), L2.defScope (tp 11), [], []⟩, ["thing"], ["thing"]⟩
def q_ratio_text : Dd := ⟨⟨("ratio_text", none), "ratio_text", "ratio_text", L2.defArgs (tp 12), L2.defBody (tp 12), L2.defScope (tp 12), [], []⟩, ["ratio"], ["ratio"]⟩
def q_ratio_in : Dd := ⟨⟨("ratio_in", none), "ratio_in", "ratio_in", L2.defArgs (tp 13), L2.defBody (tp 13), L2.defScope (tp 13), [], []⟩, ["thing"], ["thing", "words", "numbers", "word"]⟩
def q_law_cell : Dd := ⟨⟨("_law_cell", none), "_law_cell", "_law_cell", L2.defArgs (tp 15), L2.defBody (tp 15), L2.defScope (tp 15), [], []⟩, ["_law_script", "_law_k"], ["_law_script", "_law_k"]⟩
def q_law_purse : Dd := ⟨⟨("_law_purse", none), "_law_purse", "_law_purse", L2.defArgs (tp 16), L2.defBody (tp 16), L2.defScope (tp 16), [], []⟩, ["_law_cell_here"], ["_law_cell_here"]⟩
def q_law_take : Dd := ⟨⟨("_law_take", none), "_law_take", "_law_take", L2.defArgs (tp 17), L2.defBody (tp 17), L2.defScope (tp 17), [], []⟩, ["_law_purse_here", "_law_many"], ["_law_purse_here", "_law_many", "_law_seed", "_law_number_here", "_law_digit"]⟩
def q_law_sign : Dd := ⟨⟨("_law_sign", none), "_law_sign", "_law_sign", L2.defArgs (tp 18), L2.defBody (tp 18), L2.defScope (tp 18), [], []⟩, ["_law_purse_here"], ["_law_purse_here", "_law_signs"]⟩
def q_law_bent : Dd := ⟨⟨("_law_bent", none), "_law_bent", "_law_bent", L2.defArgs (tp 19), L2.defBody (tp 19), L2.defScope (tp 19), [], []⟩, ["_law_purse_here", "_law_text", "_law_way", "_law_place"], ["_law_purse_here", "_law_text", "_law_way", "_law_place", "_law_at"]⟩
def q_law_number : Dd := ⟨⟨("_law_number", none), "_law_number", "_law_number", L2.defArgs (tp 20), L2.defBody (tp 20), L2.defScope (tp 20), [], []⟩, ["_law_purse_here"], ["_law_purse_here", "_law_way", "_law_turn", "_law_number_here", "_law_k"]⟩
def q_law_common : Dd := ⟨⟨("_law_common", none), "_law_common", "_law_common", L2.defArgs (tp 21), L2.defBody (tp 21), L2.defScope (tp 21), [], []⟩, ["_law_one", "_law_other"], ["_law_one", "_law_other"]⟩
def q_law_low : Dd := ⟨⟨("_law_low", none), "_law_low", "_law_low", L2.defArgs (tp 22), L2.defBody (tp 22), L2.defScope (tp 22), [], []⟩, ["_law_top", "_law_bottom"], ["_law_top", "_law_bottom", "_law_by"]⟩
def q_law_ratio : Dd := ⟨⟨("_law_ratio", none), "_law_ratio", "_law_ratio", L2.defArgs (tp 23), L2.defBody (tp 23), L2.defScope (tp 23), [], []⟩, ["_law_purse_here"], ["_law_purse_here", "_law_top"]⟩
def q_law_is_ratio : Dd := ⟨⟨("_law_is_ratio", none), "_law_is_ratio", "_law_is_ratio", L2.defArgs (tp 24), L2.defBody (tp 24), L2.defScope (tp 24), [], []⟩, ["_law_found"], ["_law_found", "_law_number_here"]⟩
def q_law_same : Dd := ⟨⟨("_law_same", none), "_law_same", "_law_same", L2.defArgs (tp 25), L2.defBody (tp 25), L2.defScope (tp 25), [], []⟩, ["_law_found", "_law_due_here"], ["_law_found", "_law_due_here"]⟩
def q_law_no_ratio : Dd := ⟨⟨("_law_no_ratio", none), "_law_no_ratio", "_law_no_ratio", L2.defArgs (tp 26), L2.defBody (tp 26), L2.defScope (tp 26), [], []⟩, ["_law_purse_here", "_law_ratio_here"], ["_law_purse_here", "_law_ratio_here", "_law_some", "_law_top", "_law_bottom"]⟩
def q_law_reads : Dd := ⟨⟨("_law_reads", none), "_law_reads", "_law_reads", L2.defArgs (tp 27), L2.defBody (tp 27), L2.defScope (tp 27), [], []⟩, ["_law_text"], ["_law_text", "_law_figures", "_law_number_here", "_law_sign_here"]⟩
def q_law_due : Dd := ⟨⟨("_law_due", none), "_law_due", "_law_due", L2.defArgs (tp 28), L2.defBody (tp 28), L2.defScope (tp 28), [], []⟩, ["_law_thing"], ["_law_thing", "_law_top", "_law_bottom", "_law_head", "_law_stroke", "_law_tail"]⟩
def q_law_right : Dd := ⟨⟨("_law_right", none), "_law_right", "_law_right", L2.defArgs (tp 29), L2.defBody (tp 29), L2.defScope (tp 29), [], []⟩, ["_law_thing"], ["_law_thing", "_law_found", "_law_due_here"]⟩
def q_law_refused : Dd := ⟨⟨("_law_refused", none), "_law_refused", "_law_refused", L2.defArgs (tp 30), L2.defBody (tp 30), L2.defScope (tp 30), [], []⟩, ["_law_thing"], ["_law_thing", "_law_told", "e", "_law_same_here"]⟩
def q_law_great : Dd := ⟨⟨("_law_great", none), "_law_great", "_law_great", L2.defArgs (tp 31), L2.defBody (tp 31), L2.defScope (tp 31), [], []⟩, ["_law_purse_here"], ["_law_purse_here", "_law_number_here", "_law_k"]⟩
def q_law_great_right : Dd := ⟨⟨("_law_great_right", none), "_law_great_right", "_law_great_right", L2.defArgs (tp 32), L2.defBody (tp 32), L2.defScope (tp 32), [], []⟩, ["_law_purse_here"], ["_law_purse_here", "_law_ratio_here", "_law_text", "_law_due_here"]⟩
def q_law : Dd := ⟨⟨("law", none), "law", "law", L2.defArgs (tp 33), L2.defBody (tp 33), L2.defScope (tp 33), [], []⟩, ["_law_script"], ["_law_script", "_law_k", "_law_purse_here", "_law_way", "_law_place", "_law_ratio_here", "_law_bad", "_law_due_here", "_law_text", "_law_by", "_law_texts", "_law_top", "_law_bottom", "_law_one"]⟩
def i_NoRatio : Dd := ⟨⟨("NoRatio", some ("__init__" : Str)), "__init__", "NoRatio.__init__", L2.defArgs (tm 2 0), L2.defBody (tm 2 0), L2.defScope (tm 2 0), [], []⟩, ["self", "found"], ["self", "found"]⟩
def tab : Tab := ⟨["isinstance", "bool", "int", "all", "str", "abs", "len", "tuple", "range", "repr", "list", "max", "min"], ["is_number", "are_figures", "number_in", "common_part", "is_ratio", "need_ratio", "ratio_text", "ratio_in", "_law_cell", "_law_purse", "_law_take", "_law_sign", "_law_bent", "_law_number", "_law_common", "_law_low", "_law_ratio", "_law_is_ratio", "_law_same", "_law_no_ratio", "_law_reads", "_law_due", "_law_right", "_law_refused", "_law_great", "_law_great_right", "law"], ["GuessError", "NoRatio"], [1], [[], ["found"]], [("FIGURES", (.str "0123456789"))], [[], [], [], [], [], [], [], [], [], [], [], [], [], [], [], [], [], [], [], [], [], [], [], [], [], [], []]⟩
def xds : List Xd := [⟨"GuessError", [], none⟩, ⟨"NoRatio", ["found"], some 0⟩]
def all : Whole := ⟨tab, Pr, [q_is_number, q_are_figures, q_number_in, q_common_part, q_is_ratio, q_need_ratio, q_ratio_text, q_ratio_in, q_law_cell, q_law_purse, q_law_take, q_law_sign, q_law_bent, q_law_number, q_law_common, q_law_low, q_law_ratio, q_law_is_ratio, q_law_same, q_law_no_ratio, q_law_reads, q_law_due, q_law_right, q_law_refused, q_law_great, q_law_great_right, q_law], [i_NoRatio], xds⟩
theorem all_ok : all.ok = true := by kernel_rfl
theorem d_is_number : BindAny q_is_number := .inl ⟨rfl, fun _ _ _ _ _ _ us hl => match us, hl with | [_], _ => rfl⟩
theorem d_are_figures : BindAny q_are_figures := .inl ⟨rfl, fun _ _ _ _ _ _ us hl => match us, hl with | [_], _ => rfl⟩
theorem d_number_in : BindAny q_number_in := .inl ⟨rfl, fun _ _ _ _ _ _ us hl => match us, hl with | [_], _ => rfl⟩
theorem d_common_part : BindAny q_common_part := .inl ⟨rfl, fun _ _ _ _ _ _ us hl => match us, hl with | [_, _], _ => rfl⟩
theorem d_is_ratio : BindAny q_is_ratio := .inl ⟨rfl, fun _ _ _ _ _ _ us hl => match us, hl with | [_], _ => rfl⟩
theorem d_need_ratio : BindAny q_need_ratio := .inl ⟨rfl, fun _ _ _ _ _ _ us hl => match us, hl with | [_], _ => rfl⟩
theorem d_ratio_text : BindAny q_ratio_text := .inl ⟨rfl, fun _ _ _ _ _ _ us hl => match us, hl with | [_], _ => rfl⟩
theorem d_ratio_in : BindAny q_ratio_in := .inl ⟨rfl, fun _ _ _ _ _ _ us hl => match us, hl with | [_], _ => rfl⟩
theorem d_law_cell : BindAny q_law_cell := .inl ⟨rfl, fun _ _ _ _ _ _ us hl => match us, hl with | [_, _], _ => rfl⟩
theorem d_law_purse : BindAny q_law_purse := .inl ⟨rfl, fun _ _ _ _ _ _ us hl => match us, hl with | [_], _ => rfl⟩
theorem d_law_take : BindAny q_law_take := .inl ⟨rfl, fun _ _ _ _ _ _ us hl => match us, hl with | [_, _], _ => rfl⟩
theorem d_law_sign : BindAny q_law_sign := .inl ⟨rfl, fun _ _ _ _ _ _ us hl => match us, hl with | [_], _ => rfl⟩
theorem d_law_bent : BindAny q_law_bent := .inl ⟨rfl, fun _ _ _ _ _ _ us hl => match us, hl with | [_, _, _, _], _ => rfl⟩
theorem d_law_number : BindAny q_law_number := .inl ⟨rfl, fun _ _ _ _ _ _ us hl => match us, hl with | [_], _ => rfl⟩
theorem d_law_common : BindAny q_law_common := .inl ⟨rfl, fun _ _ _ _ _ _ us hl => match us, hl with | [_, _], _ => rfl⟩
theorem d_law_low : BindAny q_law_low := .inl ⟨rfl, fun _ _ _ _ _ _ us hl => match us, hl with | [_, _], _ => rfl⟩
theorem d_law_ratio : BindAny q_law_ratio := .inl ⟨rfl, fun _ _ _ _ _ _ us hl => match us, hl with | [_], _ => rfl⟩
theorem d_law_is_ratio : BindAny q_law_is_ratio := .inl ⟨rfl, fun _ _ _ _ _ _ us hl => match us, hl with | [_], _ => rfl⟩
theorem d_law_same : BindAny q_law_same := .inl ⟨rfl, fun _ _ _ _ _ _ us hl => match us, hl with | [_, _], _ => rfl⟩
theorem d_law_no_ratio : BindAny q_law_no_ratio := .inl ⟨rfl, fun _ _ _ _ _ _ us hl => match us, hl with | [_, _], _ => rfl⟩
theorem d_law_reads : BindAny q_law_reads := .inl ⟨rfl, fun _ _ _ _ _ _ us hl => match us, hl with | [_], _ => rfl⟩
theorem d_law_due : BindAny q_law_due := .inl ⟨rfl, fun _ _ _ _ _ _ us hl => match us, hl with | [_], _ => rfl⟩
theorem d_law_right : BindAny q_law_right := .inl ⟨rfl, fun _ _ _ _ _ _ us hl => match us, hl with | [_], _ => rfl⟩
theorem d_law_refused : BindAny q_law_refused := .inl ⟨rfl, fun _ _ _ _ _ _ us hl => match us, hl with | [_], _ => rfl⟩
theorem d_law_great : BindAny q_law_great := .inl ⟨rfl, fun _ _ _ _ _ _ us hl => match us, hl with | [_], _ => rfl⟩
theorem d_law_great_right : BindAny q_law_great_right := .inl ⟨rfl, fun _ _ _ _ _ _ us hl => match us, hl with | [_], _ => rfl⟩
theorem d_law : BindAny q_law := .inl ⟨rfl, fun _ _ _ _ _ _ us hl => match us, hl with | [_], _ => rfl⟩
theorem e_NoRatio : BindAny i_NoRatio := .inl ⟨rfl, fun _ _ _ _ _ _ us hl => match us, hl with | [_, _], _ => rfl⟩
theorem all_bd : ∀ q ∈ all.qs ++ all.is, BindAny q := by
  intro q hq
  simp only [all, List.cons_append, List.nil_append, List.mem_cons, List.not_mem_nil, or_false] at hq
  rcases hq with rfl | rfl | rfl | rfl | rfl | rfl | rfl | rfl | rfl | rfl | rfl | rfl | rfl | rfl | rfl | rfl | rfl | rfl | rfl | rfl | rfl | rfl | rfl | rfl | rfl | rfl | rfl | rfl
  · exact d_is_number
  · exact d_are_figures
  · exact d_number_in
  · exact d_common_part
  · exact d_is_ratio
  · exact d_need_ratio
  · exact d_ratio_text
  · exact d_ratio_in
  · exact d_law_cell
  · exact d_law_purse
  · exact d_law_take
  · exact d_law_sign
  · exact d_law_bent
  · exact d_law_number
  · exact d_law_common
  · exact d_law_low
  · exact d_law_ratio
  · exact d_law_is_ratio
  · exact d_law_same
  · exact d_law_no_ratio
  · exact d_law_reads
  · exact d_law_due
  · exact d_law_right
  · exact d_law_refused
  · exact d_law_great
  · exact d_law_great_right
  · exact d_law
  · exact e_NoRatio
abbrev R : PySem.W.OpenRow := PySem.W.OpenLaw.row PySem.Challenge.rw_guesswalk_k03_ratio_texts
abbrev hk : PySem.W.Hook := hookX 4 all.fa all.fn all.xs
def ob (s : PySem.W.SharedT) : AlG := obsX 4 all.fa all.fn all.xs (HandSHeadRun.getT s)
theorem ob_eq (s : PySem.W.SharedT) : ob s = hk.obs s.abs := obsX_eq (HandSHeadRun.getT_eq s)
def loose : List Str := (("__name__" : Str) :: ("FIGURES" : Str) :: ("GuessError" : Str) :: ("NoRatio" : Str) :: ("is_number" : Str) :: ("are_figures" : Str) :: ("number_in" : Str) :: ("common_part" : Str) :: ("is_ratio" : Str) :: ("need_ratio" : Str) :: ("ratio_text" : Str) :: ("ratio_in" : Str) :: ("_law_cell" : Str) :: ("_law_purse" : Str) :: ("_law_take" : Str) :: ("_law_sign" : Str) :: ("_law_bent" : Str) :: ("_law_number" : Str) :: ("_law_common" : Str) :: ("_law_low" : Str) :: ("_law_ratio" : Str) :: ("_law_is_ratio" : Str) :: ("_law_same" : Str) :: ("_law_no_ratio" : Str) :: ("_law_reads" : Str) :: ("_law_due" : Str) :: ("_law_right" : Str) :: ("_law_refused" : Str) :: ("_law_great" : Str) :: ("_law_great_right" : Str) :: [])
theorem run (w : World) : HandSHeadRun.RunEq R (PySem.W.view R.prog [33]) hk ob 6000 loose w := by
  intro os
  kernel_rfl
def lawIx : Nat := 26
end K03
section
open PySem PySem.W PySem.Calls PyProof.Rows
theorem K03.early (hplain : ∀ ns : List Int, ns.length ≤ 63 → ∃ fu S, GW.callN K03.Pr fu 14 K03.lawIx [GW.Val.scr (ns.map GW.Val.int)] [] = GW.Res.ok (GW.Val.bl true) S) : PySem.Challenge.rw_guesswalk_k03_ratio_texts.Holds := by
  w_on; o_law
  refine HandSHeadRun.head_any (r := OpenLaw.row PySem.Challenge.rw_guesswalk_k03_ratio_texts) (q := view (OpenLaw.row PySem.Challenge.rw_guesswalk_k03_ratio_texts).prog [33]) (H := K03.hk) (ob := K03.ob) (M := 6000) (loose := K03.loose) (d := HandSHeadRun.topDef (OpenLaw.row PySem.Challenge.rw_guesswalk_k03_ratio_texts).prog 33) (kwd := []) K03.ob_eq
    (by kernel_rfl) (fun s => by kernel_rfl) K03.run (by kernel_rfl) (by kernel_rfl) (by kernel_rfl) (by rfl) (by first | assumption | decide +kernel) (by decide +kernel) ⟨rfl, rfl, rfl, rfl, rfl, by decide +kernel⟩ ?hw ?hc
  case hw => w_witness2
  case hc =>
    refine GW.walk_g (l := PySem.Challenge.rw_guesswalk_k03_ratio_texts) (n := 63) (k := 14 + 3) (x := "_law_script") rfl (by decide) (by kernel_rfl) ⟨rfl, by decide, by decide⟩ ?F
    intro w mg fa h Y G hmg0
    obtain ⟨K, KX, c, e⟩ := Y
    have hmg : mg ("law" : PySem.Str) = some (.ref fa) := by
      have e : (HandSHeadRun.topDef (OpenLaw.row PySem.Challenge.rw_guesswalk_k03_ratio_texts).prog 33).name = ("law" : PySem.Str) := by kernel_rfl
      rw [← e]
      exact hmg0
    exact GW.whole_law K03.all_ok K03.all_bd (n := 14) (li := K03.lawIx) (q := K03.q_law) rfl rfl rfl KX G c e hmg hplain

end

/-! Core 27: what the laws have in common: purses. -/
namespace GW
open PySem
theorem ix_0 (x : Val) (xs : List Val) : ixV (x :: xs) 0 = some x := by
  unfold ixV L2.atI L2.ixN
  rw [if_pos (by decide), if_pos (by simp only [List.length_cons]; omega)]
  rfl
theorem ix_1 (x y : Val) (xs : List Val) : ixV (x :: y :: xs) 1 = some y := by
  unfold ixV L2.atI L2.ixN
  rw [if_pos (by decide), if_pos (by simp; omega)]
  rfl
theorem ix_2 (x y z : Val) (xs : List Val) : ixV (x :: y :: z :: xs) 2 = some z := by
  unfold ixV L2.atI L2.ixN
  rw [if_pos (by decide), if_pos (by simp; omega)]
  rfl
theorem ix_nat {xs : List Val} {i : Nat} {v : Val} (h : xs[i]? = some v) : ixV xs (i : Int) = some v := by
  have hl := (List.getElem?_eq_some_iff.mp h).1
  unfold ixV L2.atI L2.ixN
  rw [if_pos (by omega), if_pos (by omega)]
  simpa using h
@[simp] theorem idx_tup0 (x : Val) (xs : List Val) (S : Store) : idxV (.tup (x :: xs)) (.int 0) S = .ok x S := by
  unfold idxV; dsimp only; rw [ix_0]; rfl
@[simp] theorem idx_tup1 (x y : Val) (xs : List Val) (S : Store) : idxV (.tup (x :: y :: xs)) (.int 1) S = .ok y S := by
  unfold idxV; dsimp only; rw [ix_1]; rfl
@[simp] theorem idx_lst0 (x : Val) (xs : List Val) (S : Store) : idxV (.lst (x :: xs)) (.int 0) S = .ok x S := by
  unfold idxV; dsimp only; rw [ix_0]; rfl
@[simp] theorem idx_lst1 (x y : Val) (xs : List Val) (S : Store) : idxV (.lst (x :: y :: xs)) (.int 1) S = .ok y S := by
  unfold idxV; dsimp only; rw [ix_1]; rfl
theorem idx_ref {S : Store} {l : Nat} {xs : List Val} {i : Int} {v : Val} (h : S[l]? = some (.lst xs)) (hi : ixV xs i = some v) : idxV (.ref l) (.int i) S = .ok v S := by
  unfold idxV
  dsimp only
  rw [h]
  dsimp only
  rw [hi]
  rfl
theorem set_ref {S : Store} {l : Nat} {xs : List Val} {i : Nat} {v : Val} (h : S[l]? = some (.lst xs)) (hi : i < xs.length) : setSub (.ref l) (.int i) v S = some (S.set l (.lst (xs.set i v))) := by
  unfold setSub
  dsimp only
  rw [h]
  dsimp only
  unfold L2.ixN
  rw [if_pos (by omega), if_pos (by omega)]
  simp
theorem cmp_gt (i j : Int) (S : Store) : cmpE .gt (.int i) (.int j) S = some (decide (i > j)) := rfl
theorem cmp_lt (i j : Int) (S : Store) : cmpE .lt (.int i) (.int j) S = some (decide (i < j)) := rfl
theorem cmp_ge (i j : Int) (S : Store) : cmpE .ge (.int i) (.int j) S = some (decide (i ≥ j)) := rfl
theorem cmp_eq (i j : Int) (S : Store) : cmpE .eq (.int i) (.int j) S = some (decide (i = j)) := rfl
theorem cmp_ne (i j : Int) (S : Store) : cmpE .ne (.int i) (.int j) S = some (!decide (i = j)) := rfl
def Purse (S : Store) (l : Nat) : Prop := ∃ a b c : Int, S[l]? = some (.lst [.int a, .int b, .int c]) ∧ 0 ≤ b ∧ b < 2147483629
structure Drawn (S : Store) (l : Nat) (S' : Store) : Prop where
  pu : Purse S' l
  ch : ∃ o, S' = S.set l o
theorem Purse.lt {S : Store} {l : Nat} (h : Purse S l) : l < S.length := by
  obtain ⟨a, b, c, e, _⟩ := h
  exact (List.getElem?_eq_some_iff.mp e).1
theorem Drawn.trans {S S1 S2 : Store} {l : Nat} (x : Drawn S l S1) (y : Drawn S1 l S2) : Drawn S l S2 := by
  obtain ⟨o1, e1⟩ := x.ch
  obtain ⟨o2, e2⟩ := y.ch
  exact ⟨y.pu, o2, by rw [e2, e1, List.set_set]⟩
theorem Drawn.refl {S : Store} {l : Nat} (h : Purse S l) : Drawn S l S := ⟨h, by
  obtain ⟨a, b, c, e, _⟩ := h
  exact ⟨_, (List.set_getElem_self (List.getElem?_eq_some_iff.mp e).1).symm⟩⟩
theorem Drawn.len {S S' : Store} {l : Nat} (h : Drawn S l S') : S'.length = S.length := by
  obtain ⟨o, rfl⟩ := h.ch
  exact List.length_set ..
theorem Drawn.at {S S' : Store} {l m : Nat} (h : Drawn S l S') (hm : l ≠ m) : S'[m]? = S[m]? := by
  obtain ⟨o, rfl⟩ := h.ch
  exact List.getElem?_set_ne hm
def bTake : Cs := (.cons (.ife (.cmp .gt (.idx (.var 0) (.cst (.int 0))) (.cst (.int 0))) (.cons (.set 4 (.bin .mod (.idx (.var 0) (.cst (.int 0))) (.var 1)))
    (.cons (.sset (.var 0) (.cst (.int 0)) (.bin .div (.idx (.var 0) (.cst (.int 0))) (.var 1)))
    (.cons (.ret (.var 4))
    .nil))) .nil)
  (.cons (.sset (.var 0) (.cst (.int 2)) (.bin .add (.idx (.var 0) (.cst (.int 2))) (.cst (.int 1))))
  (.cons (.set 2 (.bin .mod (.bin .mul (.bin .add (.idx (.var 0) (.cst (.int 1))) (.cst (.int 11))) (.bin .add (.bin .mul (.cst (.int 2)) (.idx (.var 0) (.cst (.int 2)))) (.cst (.int 5)))) (.cst (.int 2147483647))))
  (.cons (.set 3 (.bin .mod (.bin .mul (.var 2) (.var 2)) (.cst (.int 2147483647))))
  (.cons (.set 3 (.bin .mod (.bin .mul (.bin .mod (.bin .mul (.var 3) (.var 3)) (.cst (.int 2147483629))) (.var 2)) (.cst (.int 2147483587))))
  (.cons (.ret (.bin .mod (.bin .div (.bin .mod (.bin .add (.var 3) (.bin .mul (.cst (.int 7)) (.idx (.var 0) (.cst (.int 2))))) (.cst (.int 2147483579))) (.cst (.int 32))) (.var 1)))
  .nil))))))
theorem fmod_nn (a : Int) {b : Int} (h : 0 < b) : 0 ≤ a.fmod b ∧ a.fmod b < b := ⟨Int.fmod_nonneg_of_pos a h, Int.fmod_lt_of_pos a h⟩
theorem small_of {a b : Int} (h : 0 ≤ a ∧ a < b) (hb : b ≤ 2 ^ 62) : a.natAbs < 2 ^ 64 := by omega
theorem d32 (x : Int) : divOk x 32 = true := divOk_b (by decide) (Nat.lt_of_lt_of_le (show (32 : Int).natAbs < 2 ^ 64 by decide) (Nat.pow_le_pow_right (by decide) (by decide)))
theorem take_ok (O : Om) {S : Store} {l : Nat} {many : Int} (h : Purse S l) (h0 : 0 < many) (h1 : many ≤ 2 ^ 60) : ∃ d S', runD O ⟨2, 5, bTake⟩ [.ref l, .int many] S = .ok (.int d) S' ∧ 0 ≤ d ∧ d < many ∧ Drawn S l S' := by
  obtain ⟨a, b, c, e, hb0, hb1⟩ := h
  have hl := (List.getElem?_eq_some_iff.mp e).1
  have hm : many ≠ 0 := by omega
  have i0 : idxV (.ref l) (.int 0) S = .ok (.int a) S := idx_ref e (ix_0 _ _)
  have i2 : idxV (.ref l) (.int 2) S = .ok (.int c) S := idx_ref e (ix_2 _ _ _ _)
  have dm : ∀ x : Int, divOk x many = true := fun x => divOk_b hm (Nat.lt_of_lt_of_le (show many.natAbs < 2 ^ 64 by omega) (Nat.pow_le_pow_right (by decide) (by decide)))
  by_cases ha : 0 < a
  · refine ⟨a.fmod many, S.set l (.lst [.int (a.fdiv many), .int b, .int c]), ?_, (fmod_nn a h0).1, (fmod_nn a h0).2, ⟨a.fdiv many, b, c, by rw [List.getElem?_set_self hl], hb0, hb1⟩, _, rfl⟩
    have s0 : setSub (.ref l) (.int 0) (.int (a.fdiv many)) S = some (S.set l (.lst [.int (a.fdiv many), .int b, .int c])) := set_ref (i := 0) e (by simp)
    simp [runD, bTake, start0, i0, cmp_gt, ha, bop_mod_int hm, bop_div_int (dm a), s0]
  · have s2 : setSub (.ref l) (.int 2) (.int (c + 1)) S = some (S.set l (.lst [.int a, .int b, .int (c + 1)])) := set_ref (i := 2) e (by simp)
    have e' : (S.set l (.lst [.int a, .int b, .int (c + 1)]))[l]? = some (.lst [.int a, .int b, .int (c + 1)]) := List.getElem?_set_self hl
    have j1 : idxV (.ref l) (.int 1) (S.set l (.lst [.int a, .int b, .int (c + 1)])) = .ok (.int b) _ := idx_ref e' (ix_1 _ _ _)
    have j2 : idxV (.ref l) (.int 2) (S.set l (.lst [.int a, .int b, .int (c + 1)])) = .ok (.int (c + 1)) _ := idx_ref e' (ix_2 _ _ _ _)
    suffices z : ∃ x : Int, runD O ⟨2, 5, bTake⟩ [.ref l, .int many] S = .ok (.int (x.fmod many)) (S.set l (.lst [.int a, .int b, .int (c + 1)])) by
      obtain ⟨x, hx⟩ := z
      exact ⟨_, _, hx, (fmod_nn x h0).1, (fmod_nn x h0).2, ⟨a, b, c + 1, e', hb0, hb1⟩, _, rfl⟩
    have m1 : mulOk 2 (c + 1) = true := mulOk_l (by decide)
    have m2 : mulOk (b + 11) (2 * (c + 1) + 5) = true := mulOk_l (by omega)
    have m3 : mulOk 7 (c + 1) = true := mulOk_l (by decide)
    have z1 := fmod_nn ((b + 11) * (2 * (c + 1) + 5)) (show (0 : Int) < 2147483647 by decide)
    generalize hs : ((b + 11) * (2 * (c + 1) + 5)).fmod 2147483647 = sd at z1
    have m4 : mulOk sd sd = true := mulOk_l (small_of z1 (by decide))
    have z2 := fmod_nn (sd * sd) (show (0 : Int) < 2147483647 by decide)
    generalize hn : (sd * sd).fmod 2147483647 = nn at z2
    have m5 : mulOk nn nn = true := mulOk_l (small_of z2 (by decide))
    have z3 := fmod_nn (nn * nn) (show (0 : Int) < 2147483629 by decide)
    have m6 : mulOk ((nn * nn).fmod 2147483629) sd = true := mulOk_l (small_of z3 (by decide))
    refine ⟨((((nn * nn).fmod 2147483629 * sd).fmod 2147483587 + 7 * (c + 1)).fmod 2147483579).fdiv 32, ?_⟩
    simp [runD, bTake, start0, i0, i2, cmp_gt, ha, s2, j1, j2, bop_mul_int m1, bop_mul_int m2, bop_mul_int m3, bop_mod_int (show (2147483647 : Int) ≠ 0 by decide), bop_mod_int (show (2147483629 : Int) ≠ 0 by decide), bop_mod_int (show (2147483587 : Int) ≠ 0 by decide), bop_mod_int (show (2147483579 : Int) ≠ 0 by decide), bop_mod_int hm,
      bop_div_int (d32 _), hs, bop_mul_int m4, hn, bop_mul_int m5, bop_mul_int m6]
end GW
set_option exponentiation.threshold 20000
/-! Core 28: common parts, lowest terms. -/
namespace GW
open PySem
theorem whl_stop {c : Enm → Store → Res Bool} {b : Enm → Store → Fl} {m : Nat} {en : Enm} {S S1 : Store} (h : c en S = .ok false S1) : whlF c b (m + 1) en S = .nx en S1 := by
  unfold whlF; rw [h]; rfl
theorem whl_go {c : Enm → Store → Res Bool} {b : Enm → Store → Fl} {m : Nat} {en en' : Enm} {S S1 S' : Store} (h : c en S = .ok true S1) (hb : b en S1 = .nx en' S') : whlF c b (m + 1) en S = whlF c b m en' S' := by
  rw [whlF, h]
  show (b en S1).then _ = _
  rw [hb]
  rfl
theorem gcd_step (a b : Int) : Int.gcd b (a.fmod b) = Int.gcd a b := by
  rw [Int.fmod_def, Int.gcd_sub_mul_left_right, Int.gcd_comm]
theorem fmod_small (a : Int) {b : Int} (h : b ≠ 0) : (a.fmod b).natAbs < b.natAbs := by
  rcases Int.lt_or_gt_of_ne h with h | h
  · have e : (-a).fmod (-b) = -(a.fmod b) := Int.neg_fmod_neg a b
    have h1 := Int.fmod_nonneg_of_pos (-a) (show 0 < -b by omega)
    have h2 := Int.fmod_lt_of_pos (-a) (show 0 < -b by omega)
    omega
  · have h1 := Int.fmod_nonneg_of_pos a h
    have h2 := Int.fmod_lt_of_pos a h
    omega
def cCommon : E := .cmp .ne (.var 1) (.cst (.int 0))
def cPart : E := .cmp .gt (.var 1) (.cst (.int 0))
def wPart : Cs := .cons (.par 0 1 (.var 1) (.bin .mod (.var 0) (.var 1))) .nil
section
variable {O : Om} {S : Store}
theorem common_loop : ∀ (m : Nat) (a b : Int), b.natAbs < m → ∃ g : Int, g.natAbs = Int.gcd a b ∧ whlF (fun en S => (evE O cCommon en S).bind truR) (fun en S => exS O wPart en S) m [some (.int a), some (.int b)] S = .nx [some (.int g), some (.int 0)] S
  | 0, _, _, h => absurd h (Nat.not_lt_zero _)
  | m + 1, a, b, h => by
    by_cases hb : b = 0
    · subst hb
      exact ⟨a, by simp, whl_stop (by simp [cCommon, cmp_ne])⟩
    · obtain ⟨g, h1, h2⟩ := common_loop m b (a.fmod b) (by have := fmod_small a hb; omega)
      exact ⟨g, by rw [h1, gcd_step], (whl_go (by simp [cCommon, cmp_ne, hb]; rfl) (by simp [wPart, bop_mod_int hb])).trans h2⟩
theorem part_loop : ∀ (m : Nat) (a b : Int), 0 ≤ a → 0 ≤ b → b.natAbs < m → whlF (fun en S => (evE O cPart en S).bind truR) (fun en S => exS O wPart en S) m [some (.int a), some (.int b)] S = .nx [some (.int (Int.gcd a b)), some (.int 0)] S
  | 0, _, _, _, _, h => absurd h (Nat.not_lt_zero _)
  | m + 1, a, b, ha, hb0, h => by
    by_cases hb : b = 0
    · subst hb
      have e : ((a.natAbs : Nat) : Int) = a := by omega
      rw [Int.gcd_zero_right, e]
      exact whl_stop (by simp [cPart, cmp_gt])
    · have hp : 0 < b := by omega
      have h2 := part_loop m b (a.fmod b) hb0 (Int.fmod_nonneg_of_pos a hp) (by have := fmod_small a hb; omega)
      rw [gcd_step] at h2
      exact (whl_go (by simp [cPart, cmp_gt, hp]; rfl) (by simp [wPart, bop_mod_int hb])).trans h2
def bCommon : Cs := (.cons (.whl cCommon wPart)
  (.cons (.ret (.blt .abs (.cons (.var 0) .nil)))
  .nil))
def bPart : Cs := (.cons (.set 0 (.blt .abs (.cons (.var 0) .nil)))
  (.cons (.set 1 (.blt .abs (.cons (.var 1) .nil)))
  (.cons (.whl cPart wPart)
  (.cons (.ret (.var 0))
  .nil))))
@[simp] theorem abs_int (i : Int) (S : Store) : bltV .abs [.int i] S = .ok (.int i.natAbs) S := by
  show Res.ok _ _ = _
  congr 2
  split <;> omega
theorem common_ok {a b : Int} (h : b.natAbs < O.fu) : runD O ⟨2, 2, bCommon⟩ [.int a, .int b] S = .ok (.int (Int.gcd a b)) S := by
  obtain ⟨g, h1, h2⟩ := common_loop (O := O) (S := S) O.fu a b h
  simp [runD, bCommon, start0, ex_whl, h2, h1]
theorem part_ok {a b : Int} (h : b.natAbs < O.fu) : runD O ⟨2, 2, bPart⟩ [.int a, .int b] S = .ok (.int (Int.gcd a b)) S := by
  have h2 := part_loop (O := O) (S := S) O.fu a.natAbs b.natAbs (by omega) (by omega) (by simpa using h)
  rw [show Int.gcd (a.natAbs : Int) (b.natAbs : Int) = Int.gcd a b by simp [Int.gcd_eq_natAbs_gcd_natAbs]] at h2
  simp [runD, bPart, start0, ex_whl, h2]
def lowB (t b : Int) : Int := if b < 0 then 0 - (Int.gcd t b : Int) else Int.gcd t b
def lowV (t b : Int) : Val := .tup [.int (t.fdiv (lowB t b)), .int (b.fdiv (lowB t b))]
def bLow (c : Nat) : Cs := (.cons (.set 2 (.call c (.cons (.var 0) (.cons (.var 1) .nil))))
  (.cons (.ife (.cmp .lt (.var 1) (.cst (.int 0))) (.cons (.set 2 (.bin .sub (.cst (.int 0)) (.var 2)))
    .nil) .nil)
  (.cons (.ret (.tpd (.cons (.bin .div (.var 0) (.var 2)) (.cons (.bin .div (.var 1) (.var 2)) .nil))))
  .nil)))
theorem lowB_abs (t b : Int) : (lowB t b).natAbs = Int.gcd t b := by
  unfold lowB
  split <;> omega
theorem gcd_le {t b : Int} (hb : b ≠ 0) : Int.gcd t b ≤ b.natAbs := Nat.le_of_dvd (by omega) (Int.natAbs_dvd_natAbs.mpr (Int.gcd_dvd_right t b))
theorem gcd_pos {t b : Int} (hb : b ≠ 0) : 0 < Int.gcd t b := Nat.pos_of_ne_zero fun z => hb (Int.gcd_eq_zero_iff.mp z).2
@[simp] theorem mkT_2 (x y : Val) (S : Store) : mkT [x, y] S = .ok (.tup [x, y]) S := if_pos (by show 2 ≤ sizeLine; decide)
@[simp] theorem mkT_1 (x : Val) (S : Store) : mkT [x] S = .ok (.tup [x]) S := if_pos (by show 1 ≤ sizeLine; decide)
@[simp] theorem mkT_3 (x y z : Val) (S : Store) : mkT [x, y, z] S = .ok (.tup [x, y, z]) S := if_pos (by show 3 ≤ sizeLine; decide)
@[simp] theorem mkT_0 (S : Store) : mkT [] S = .ok (.tup []) S := if_pos (by show 0 ≤ sizeLine; decide)
theorem low_ok {c : Nat} {t b : Int} (hb : b ≠ 0) (hs : b.natAbs < 2 ^ 9000) (hc : O.call c [.int t, .int b] S = .ok (.int (Int.gcd t b)) S) : runD O ⟨2, 3, bLow c⟩ [.int t, .int b] S = .ok (lowV t b) S := by
  have h0 : lowB t b ≠ 0 := fun z => by
    have := lowB_abs t b
    rw [z] at this
    have := gcd_pos (t := t) hb
    omega
  have h1 : (lowB t b).natAbs < 2 ^ 9000 := by
    rw [lowB_abs]
    exact Nat.lt_of_le_of_lt (gcd_le hb) hs
  have d : ∀ x, divOk x (lowB t b) = true := fun x => divOk_b h0 h1
  unfold lowV
  by_cases hn : b < 0
  · have e : lowB t b = -(Int.gcd t b : Int) := by unfold lowB; rw [if_pos hn]; omega
    rw [e] at d ⊢
    simp only [runD, bLow, start0, exs_c, ex_set, ev_call, evs_c, evs_n, ev_var, List.map_cons, List.map_nil, List.length_cons, List.length_nil, List.replicate, List.cons_append, List.nil_append, if_true]
    simp [hc, cmp_lt, hn, bop_div_int (d t), bop_div_int (d b)]
  · have e : lowB t b = (Int.gcd t b : Int) := if_neg hn
    rw [e] at d ⊢
    simp only [runD, bLow, start0, exs_c, ex_set, ev_call, evs_c, evs_n, ev_var, List.map_cons, List.map_nil, List.length_cons, List.length_nil, List.replicate, List.cons_append, List.nil_append, if_true]
    simp [hc, cmp_lt, hn, bop_div_int (d t), bop_div_int (d b)]
end
structure IsR (x y : Int) : Prop where
  pos : 0 < y
  low : Int.gcd x y = 1
theorem low_parts (t : Int) {b : Int} (hb : b ≠ 0) : ∃ x y : Int, lowV t b = .tup [.int x, .int y] ∧ x * lowB t b = t ∧ y * lowB t b = b ∧ IsR x y ∧ x.natAbs ≤ t.natAbs ∧ y.natAbs ≤ b.natAbs := by
  have hg := gcd_pos (t := t) hb
  have ha := lowB_abs t b
  have h0 : lowB t b ≠ 0 := fun z => by rw [z] at ha; simp at ha; omega
  have dt : lowB t b ∣ t := by
    rw [← Int.natAbs_dvd_natAbs, ha]
    exact Int.natAbs_dvd_natAbs.mpr (Int.gcd_dvd_left t b)
  have db : lowB t b ∣ b := by
    rw [← Int.natAbs_dvd_natAbs, ha]
    exact Int.natAbs_dvd_natAbs.mpr (Int.gcd_dvd_right t b)
  obtain ⟨x, hx⟩ := dt
  obtain ⟨y, hy⟩ := db
  have ex : t.fdiv (lowB t b) = x := by
    generalize lowB t b = q at h0 hx
    rw [hx, Int.mul_comm]
    exact Int.mul_fdiv_cancel x h0
  have ey : b.fdiv (lowB t b) = y := by
    generalize lowB t b = q at h0 hy
    rw [hy, Int.mul_comm]
    exact Int.mul_fdiv_cancel y h0
  have hx' : x * lowB t b = t := by rw [Int.mul_comm]; exact hx.symm
  have hy' : y * lowB t b = b := by rw [Int.mul_comm]; exact hy.symm
  refine ⟨x, y, by unfold lowV; rw [ex, ey], hx', hy', ⟨?_, ?_⟩, ?_, ?_⟩
  · by_cases hn : b < 0
    · have hl : lowB t b < 0 := by unfold lowB; rw [if_pos hn]; omega
      rcases Int.lt_or_le 0 y with h | h
      · exact h
      · have : 0 ≤ y * lowB t b := Int.mul_nonneg_of_nonpos_of_nonpos h (Int.le_of_lt hl)
        omega
    · have hl : 0 < lowB t b := by unfold lowB; rw [if_neg hn]; omega
      rcases Int.lt_or_le 0 y with h | h
      · exact h
      · have : y * lowB t b ≤ 0 := Int.mul_nonpos_of_nonpos_of_nonneg h (Int.le_of_lt hl)
        omega
  · have h3 := Int.gcd_mul_right x (lowB t b) y
    rw [hx', hy', ha] at h3
    have h4 : 1 * Int.gcd t b = Int.gcd x y * Int.gcd t b := by rw [Nat.one_mul]; exact h3
    exact (Nat.eq_of_mul_eq_mul_right hg h4).symm
  · rw [← hx', Int.natAbs_mul]
    exact Nat.le_mul_of_pos_right _ (by omega)
  · rw [← hy', Int.natAbs_mul]
    exact Nat.le_mul_of_pos_right _ (by omega)
end GW
set_option exponentiation.threshold 20000
/-! Core 29: loops with an invariant, cells, purses. -/
namespace GW
open PySem
theorem live_nil (S : Store) : live S [] [] := fun p hp => by cases hp
theorem for_inv {cs : List Val} {xs : List (List Val)} {t : Tg} {b : Enm → Store → Fl} (P : Nat → Enm → Store → Prop) (hl : ∀ k en S, P k en S → live S cs xs) :
    ∀ (its : List Val) (k : Nat), (∀ j v en S, its[j]? = some v → P (k + j) en S → ∃ en1, putT t v en = some en1 ∧ ∃ en' S', b en1 S = .nx en' S' ∧ P (k + j + 1) en' S') → ∀ en S, P k en S → ∃ en' S', forF cs xs t b its en S = .nx en' S' ∧ P (k + its.length) en' S'
  | [], k, _, en, S, h => ⟨en, S, if_pos (hl _ _ _ h), h⟩
  | v :: r, k, hs, en, S, h => by
    obtain ⟨en1, e1, en2, S2, e2, h2⟩ := hs 0 v en S rfl h
    obtain ⟨en3, S3, e3, h3⟩ := for_inv P hl r (k + 1) (fun j u en S e p => by
      have e' : k + 1 + j = k + (j + 1) := by omega
      rw [e'] at p ⊢
      exact hs (j + 1) u en S e p) en2 S2 h2
    refine ⟨en3, S3, ?_, by rw [List.length_cons, show k + (r.length + 1) = k + 1 + r.length by omega]; exact h3⟩
    unfold forF
    rw [if_pos (hl _ _ _ h), e1]
    dsimp only
    rw [e2]
    exact e3
theorem rngL_len (n : Nat) : (rngL 0 n).length = n := by unfold rngL; simp
theorem rngL_at {n j : Nat} {v : Val} (h : (rngL 0 n)[j]? = some v) : v = .int j ∧ j < n := by
  have hj := (List.getElem?_eq_some_iff.mp h).1
  rw [rngL_len] at hj
  refine ⟨?_, hj⟩
  unfold rngL at h
  rw [List.getElem?_map, List.getElem?_range (by simpa using hj)] at h
  have := Option.some.inj h
  rw [← this]
  simp
theorem inR_nat {n : Nat} (h : n < 4611686018427387904) : inR n = true := by
  have h1 : -(2 ^ 62 : Int) ≤ (n : Int) := by omega
  have h2 : (n : Int) < 2 ^ 62 := by omega
  unfold inR
  rw [decide_eq_true h1, decide_eq_true h2]
  rfl
theorem rng_ok {n : Nat} {S : Store} (h : n < 4611686018427387904) : rng1W (.int n) S = .ok ⟨[], [], rngL 0 n⟩ S := by
  have e := inR_nat h
  unfold rng1W
  dsimp only
  rw [e]
  simp only [if_true]
section
variable {P : Pg} {fu n : Nat} {S : Store}
@[simp] theorem om_call (f : Nat) (vs : List Val) (S : Store) : (om P fu n).call f vs S = callN P fu n f vs S := rfl
@[simp] theorem om_fu : (om P fu n).fu = fu := rfl
@[simp] theorem om_nf : (om P fu n).nf = P.defs.length := rfl
@[simp] theorem om_nc : (om P fu n).nc = P.nc := rfl
@[simp] theorem om_sub : (om P fu n).sub = P.sub := rfl
theorem call_eq {f : Nat} {d : Df} (h : P.defs[f]? = some d) (vs : List Val) (S : Store) : callN P fu (n + 1) f vs S = runD (om P fu n) d vs S := by
  show (match P.defs[f]? with
    | some d => runD ⟨callN P fu n, fu, P.defs.length, P.nc, P.sub⟩ d vs S
    | none => .stk) = _
  rw [h]
  rfl
end
def bCell : Cs := (.cons (.ife (.cmp .lt (.var 1) (.blt .len (.cons (.var 0) .nil))) (.cons (.ret (.idx (.var 0) (.var 1)))
    .nil) .nil)
  (.cons (.ret (.bin .add (.bin .mul (.cst (.int 7919)) (.var 1)) (.cst (.int 13))))
  .nil))
theorem cell_ok (O : Om) {S : Store} (ns : List Int) (k : Nat) : ∃ c : Int, runD O ⟨2, 2, bCell⟩ [.scr (ns.map Val.int), .int k] S = .ok (.int c) S := by
  by_cases h : (k : Int) < ns.length
  · have hk : k < ns.length := by omega
    have e : idxV (.scr (ns.map Val.int)) (.int k) S = .ok (.int ns[k]) S := by
      show oV (ixV (ns.map Val.int) k) S = _
      rw [ix_nat (v := .int ns[k]) (by simp [List.getElem?_eq_getElem hk])]
      rfl
    refine ⟨ns[k], ?_⟩
    have l : bltV .len [.scr (ns.map Val.int)] S = .ok (.int ns.length) S := by
      show Res.ok (Val.int ((ns.map Val.int).length : Nat)) S = _
      rw [List.length_map]
    simp [runD, bCell, start0, l, cmp_lt, h, e]
  · have l : bltV .len [.scr (ns.map Val.int)] S = .ok (.int ns.length) S := by
      show Res.ok (Val.int ((ns.map Val.int).length : Nat)) S = _
      rw [List.length_map]
    refine ⟨7919 * k + 13, ?_⟩
    simp [runD, bCell, start0, l, cmp_lt, h, bop_mul_int (mulOk_l (i := 7919) (j := (k : Int)) (by decide))]
def bPurse : Cs := (.cons (.ret (.lsd true (.cons (.idx (.lsd false (.cons (.cst (.int 0)) (.cons (.var 0) .nil))) (.blt .int (.cons (.cmp .ge (.var 0) (.bin .pow (.cst (.int 10)) (.cst (.int 18)))) .nil))) (.cons (.bin .mod (.var 0) (.cst (.int 2147483629))) (.cons (.cst (.int 0)) .nil)))))
  .nil)
@[simp] theorem mkL_f {xs : List Val} {S : Store} (h : xs.length ≤ sizeLine) : mkL false xs S = .ok (.lst xs) S := by
  unfold mkL; rw [if_pos h]; rfl
@[simp] theorem mkL_t {xs : List Val} {S : Store} (h : xs.length ≤ sizeLine) : mkL true xs S = .ok (.ref S.length) (S ++ [.lst xs]) := by
  unfold mkL; rw [if_pos h]; rfl
theorem sz_le {n : Nat} (h : n ≤ 1000000) : n ≤ sizeLine := Nat.le_trans h (by decide)
@[simp] theorem int_bl (b : Bool) (S : Store) : bltV .int [.bl b] S = .ok (.int (if b = true then 1 else 0)) S := rfl
theorem purse_ok (O : Om) {S : Store} (c : Int) : ∃ a b : Int, 0 ≤ b ∧ b < 2147483629 ∧ runD O ⟨1, 1, bPurse⟩ [.int c] S = .ok (.ref S.length) (S ++ [.lst [.int a, .int b, .int 0]]) := by
  have p : powOk 10 18 = true := by decide
  have m := fmod_nn c (show (0 : Int) < 2147483629 by decide)
  by_cases h : c ≥ 10 ^ 18
  · refine ⟨c, c.fmod 2147483629, m.1, m.2, ?_⟩
    have h' : 1000000000000000000 ≤ c := h
    simp [runD, bPurse, start0, bop_pow_int p, cmp_ge, h', bop_mod_int (show (2147483629 : Int) ≠ 0 by decide), mkL_f (sz_le (show [Val.int 0, Val.int c].length ≤ 1000000 by simp)), mkL_t (sz_le (show [Val.int c, Val.int (c.fmod 2147483629), Val.int 0].length ≤ 1000000 by simp))]
  · refine ⟨0, c.fmod 2147483629, m.1, m.2, ?_⟩
    have h' : ¬ 1000000000000000000 ≤ c := h
    simp [runD, bPurse, start0, bop_pow_int p, cmp_ge, h', bop_mod_int (show (2147483629 : Int) ≠ 0 by decide), mkL_f (sz_le (show [Val.int 0, Val.int c].length ≤ 1000000 by simp)), mkL_t (sz_le (show [Val.int 0, Val.int (c.fmod 2147483629), Val.int 0].length ≤ 1000000 by simp))]
theorem purse_is {S : Store} {a b : Int} (h0 : 0 ≤ b) (h1 : b < 2147483629) : Purse (S ++ [.lst [.int a, .int b, .int 0]]) S.length := ⟨a, b, 0, by rw [List.getElem?_append_right (Nat.le_refl _), Nat.sub_self]; rfl, h0, h1⟩
end GW
set_option exponentiation.threshold 20000
/-! Core 30: loops over lists, comprehensions, texts. -/
namespace GW
open PySem
theorem live_1 {v : Val} {xs : List Val} {S : Store} (h : ∀ l, v ≠ .ref l) : live S [v] [xs] := by
  intro p hp
  simp only [List.zip_cons_cons, List.zip_nil_right, List.mem_cons, List.not_mem_nil, or_false] at hp
  subst hp
  cases v <;> first | trivial | exact absurd rfl (h _)
theorem live_t (x xs : List Val) (S : Store) : live S [.tup x] [xs] := live_1 fun _ h => by cases h
theorem live_l (x xs : List Val) (S : Store) : live S [.lst x] [xs] := live_1 fun _ h => by cases h
section
variable {cs : List Val} {xs : List (List Val)} {b : Enm → Store → Fl} {en : Enm} {S : Store} {v : Val} {r : List Val}
end
theorem eq_pair (x y : Int) (S : Store) : eqV S (.tup [.int x, .int y]) (.tup [.int x, .int y]) = some true := by
  have : topS S (.tup [.int x, .int y]) (.tup [.int x, .int y]) = true := by simp [topS, samL, samE, scalE]
  unfold eqV
  dsimp only [scalE]
  rw [if_pos this]
section
variable {cs : List Val} {xs : List (List Val)} {en : Enm} {S : Store} {test : Enm → Store → Res Bool} {elt : Enm → Store → Res Val} {i : Nat}
@[simp] theorem noX_ok {α : Type} (a : α) (S : Store) : (Res.ok a S).noX = .ok a S := rfl
theorem lc_none (h : live S cs xs) : ∀ {its : List Val} {acc : List Val}, (∀ v ∈ its, test (en.set i (some v)) S = .ok false S) → lcF cs xs (.one i) test elt en its acc S = .ok acc S
  | [], acc, _ => if_pos h
  | v :: r, acc, hs => by
    unfold lcF
    rw [if_pos h]
    dsimp only [putT]
    rw [hs v (List.mem_cons_self ..)]
    simp only [noX_ok, Res.bind_ok, Bool.false_eq_true, if_false]
    exact lc_none h fun u hu => hs u (List.mem_cons_of_mem _ hu)
theorem lc_all (h : live S cs xs) (f : Val → Val) : ∀ {its : List Val} {acc : List Val}, (acc.length + its.length < 1000) → (∀ v ∈ its, test (en.set i (some v)) S = .ok true S ∧ elt (en.set i (some v)) S = .ok (f v) S) → lcF cs xs (.one i) test elt en its acc S = .ok (acc ++ its.map f) S
  | [], acc, _, _ => by
    unfold lcF
    rw [if_pos h]
    simp
  | v :: r, acc, hn, hs => by
    unfold lcF
    rw [if_pos h]
    dsimp only [putT]
    obtain ⟨h1, h2⟩ := hs v (List.mem_cons_self ..)
    rw [h1]
    simp only [noX_ok, Res.bind_ok, if_true, h2]
    rw [if_pos (Nat.lt_of_lt_of_le (show acc.length < 1000 by simp at hn; omega) (by decide))]
    rw [lc_all h f (by simp at hn ⊢; omega) fun u hu => hs u (List.mem_cons_of_mem _ hu)]
    simp
end

theorem nil_eq (S : Store) : cmpE .eq (.lst []) (.lst []) S = some true := by
  show eqV S (.lst []) (.lst []) = _
  simp [eqV, scalE, topS, seqL, samL]
theorem nil_ne (S : Store) : cmpE .ne (.lst []) (.lst []) S = some false := by
  show (eqV S (.lst []) (.lst [])).map not = _
  simp [eqV, scalE, topS, seqL, samL]
section
variable {cs : List Val} {xs : List (List Val)} {en : Enm} {S : Store} {test : Enm → Store → Res Bool} {elt : Enm → Store → Res Val} {i : Nat}
theorem lc_filt (h : live S cs xs) (p : Val → Bool) : ∀ {its : List Val} {acc : List Val}, (acc.length + its.length < 1000) → (∀ v ∈ its, test (en.set i (some v)) S = .ok (p v) S ∧ elt (en.set i (some v)) S = .ok v S) → lcF cs xs (.one i) test elt en its acc S = .ok (acc ++ its.filter p) S
  | [], acc, _, _ => by
    unfold lcF
    rw [if_pos h]
    simp
  | v :: r, acc, hn, hs => by
    unfold lcF
    rw [if_pos h]
    dsimp only [putT]
    obtain ⟨h1, h2⟩ := hs v (List.mem_cons_self ..)
    rw [h1]
    cases hp : p v
    · simp only [noX_ok, Res.bind_ok, Bool.false_eq_true, if_false]
      rw [lc_filt h p (by simp at hn ⊢; omega) fun u hu => hs u (List.mem_cons_of_mem _ hu)]
      simp [hp]
    · simp only [noX_ok, Res.bind_ok, if_true, h2]
      rw [if_pos (Nat.lt_of_lt_of_le (show acc.length < 1000 by simp at hn; omega) (by decide))]
      rw [lc_filt h p (by simp at hn ⊢; omega) fun u hu => hs u (List.mem_cons_of_mem _ hu)]
      simp [hp]
end
def tS (l : List Nat) : Val := .str ⟨⟨l⟩⟩
section
variable {S : Store}
theorem len_s {l : List Nat} (h : l.length ≤ 1000) : bltV .len [tS l] S = .ok (.int l.length) S := by
  show (if l.length ≤ sizeLine then _ else _) = _
  rw [if_pos (Nat.le_trans h (by decide))]
  rfl
theorem slc_to {l : List Nat} (k : Nat) (h : l.length ≤ 1000) : slcV (tS l) none (some (k : Int)) S = .ok (tS (l.take k)) S := by
  show (if l.length ≤ sizeLine then _ else _) = _
  rw [if_pos (Nat.le_trans h (by decide))]
  show Res.ok (Val.str ⟨((l.drop 0).take (HT.sIx l.length l.length (some (k : Int)) - 0)).toArray⟩) S = _
  rw [HT.sIx_nat, List.drop_zero, Nat.sub_zero]
  show Res.ok (tS (l.take (min k l.length))) S = _
  congr 2
  rw [List.take_eq_take_iff]
  omega
theorem slc_from {l : List Nat} (k : Nat) (h : l.length ≤ 1000) : slcV (tS l) (some (k : Int)) none S = .ok (tS (l.drop k)) S := by
  show (if l.length ≤ sizeLine then _ else _) = _
  rw [if_pos (Nat.le_trans h (by decide))]
  show Res.ok (Val.str ⟨((l.drop (HT.sIx l.length 0 (some (k : Int)))).take (l.length - HT.sIx l.length 0 (some (k : Int)))).toArray⟩) S = _
  rw [HT.sIx_nat]
  show Res.ok (tS ((l.drop (min k l.length)).take (l.length - min k l.length))) S = _
  congr 2
  rw [List.take_of_length_le (by simp)]
  by_cases hk : k ≤ l.length
  · rw [Nat.min_eq_left hk]
  · rw [List.drop_of_length_le (by omega), List.drop_of_length_le (by omega)]
theorem items_s (l : List Nat) : items S (tS l) = some (l.map fun c => tS [c]) := rfl
theorem eq_s (a b : List Nat) : cmpE .eq (tS a) (tS b) S = some (decide (a = b)) := by
  show some (decide ((⟨⟨a⟩⟩ : Str) = ⟨⟨b⟩⟩)) = _
  congr 1
  rw [decide_eq_decide]
  constructor
  · intro h; cases h; rfl
  · intro h; rw [h]
theorem ne_s (a b : List Nat) : cmpE .ne (tS a) (tS b) S = some (!decide (a = b)) := by
  show (cmpE .eq (tS a) (tS b) S).map not = _
  rw [eq_s]
  rfl
theorem in_s (c : Nat) (b : List Nat) : cmpE .inn (tS [c]) (tS b) S = some (decide (c ∈ b)) := rfl
theorem nin_s (c : Nat) (b : List Nat) : cmpE .nin (tS [c]) (tS b) S = some (!decide (c ∈ b)) := rfl
theorem idx_s {c : Nat} {l : List Nat} (h : (c :: l).length ≤ 1000) : idxV (tS (c :: l)) (.int 0) S = .ok (tS [c]) S := by
  show (if (c :: l).length ≤ sizeLine then _ else _) = _
  rw [if_pos (Nat.le_trans h (by decide))]
  show (match L2.atI (c :: l) 0 with
    | some c => Res.ok (Val.str ⟨#[c]⟩) S
    | none => .stk) = _
  have : L2.atI (c :: l) 0 = some c := by
    unfold L2.atI L2.ixN
    rw [if_pos (by decide), if_pos (by simp only [List.length_cons]; omega)]
    rfl
  rw [this]
  rfl
theorem toD_strs (n : Nat) : ∀ l : List Nat, allD (toD S (n + 1)) (l.map fun c => tS [c]) = some (l.map fun c => .str ⟨⟨[c]⟩⟩)
  | [] => rfl
  | c :: l => by
    show (match toD S (n + 1) (tS [c]), allD (toD S (n + 1)) (l.map fun c => tS [c]) with
      | some d, some ds => some (d :: ds)
      | _, _ => none) = _
    rw [toD_strs n l]
    rfl
def Asc (l : List Nat) : Prop := ∀ c ∈ l, c < 128
theorem eq_strs_nil {l : List Nat} (hl : Asc l) : eqV S (.lst (l.map fun c => tS [c])) (.lst []) = some (decide (l = [])) := by
  cases l with
  | nil => exact nil_eq S
  | cons c l =>
    have t : topS S (.lst ((c :: l).map fun c => tS [c])) (.lst []) = false := rfl
    have d1 : toD S 12 (.lst ((c :: l).map fun c => tS [c])) = some (.list ((c :: l).map fun c => .str ⟨⟨[c]⟩⟩)) := by
      show (allD (toD S 11) ((c :: l).map fun c => tS [c])).map PyData.list = _
      rw [toD_strs 10 (c :: l)]
      rfl
    have d2 : toD S 12 (.lst []) = some (.list []) := rfl
    have ca : ∀ l : List Nat, Asc l → PyData.canLayAll0 (l.map fun c => PyData.str ⟨⟨[c]⟩⟩) = true := fun l => by
      induction l with
      | nil => exact fun _ => rfl
      | cons c l ih =>
        intro ha
        have hc := ha c (List.mem_cons_self ..)
        simp only [List.map_cons, PyData.canLayAll0, ih fun x hx => ha x (List.mem_cons_of_mem _ hx), Bool.and_true, PyData.canLay0]
        simp [PyData.strOk]
        omega
    have da : ∀ l : List Nat, PyData.depthAll (l.map fun c => PyData.str ⟨⟨[c]⟩⟩) = 0 := fun l => by
      induction l with
      | nil => rfl
      | cons c l ih => simp only [List.map_cons, PyData.depthAll, ih, PyData.depth]; rfl
    have sh : SeqAt.shaped (.list ((c :: l).map fun c => .str ⟨⟨[c]⟩⟩)) = true := by
      unfold SeqAt.shaped
      rw [Bool.and_eq_true]
      refine ⟨?_, decide_eq_true ?_⟩
      · simp only [PyData.canLay0]; exact ca _ hl
      · simp only [PyData.depth]; rw [da]; decide
    unfold eqV
    dsimp only [scalE]
    rw [t, if_neg (by decide)]
    unfold datE
    rw [d1, d2]
    dsimp only
    rw [sh]
    rfl
end
end GW
set_option exponentiation.threshold 20000
/-! Core 31: numbers drawn. -/
namespace GW
open PySem
structure TakeOk (O : Om) (tk : Nat) : Prop where
  run : ∀ (S : Store) (l : Nat) (many : Int), Purse S l → 0 < many → many ≤ 2 ^ 60 → ∃ d S', O.call tk [.ref l, .int many] S = .ok (.int d) S' ∧ 0 ≤ d ∧ d < many ∧ Drawn S l S'
theorem TakeOk.at {O : Om} {tk : Nat} (h : TakeOk O tk) {S : Store} {l : Nat} {many : Int} (p : Purse S l) (h0 : 0 < many) (h1 : many ≤ 2 ^ 60) : ∃ d S', O.call tk [.ref l, .int many] S = .ok (.int d) S' ∧ 0 ≤ d ∧ d < many ∧ Drawn S l S' := h.run S l many p h0 h1
theorem takeOk {P : Pg} {fu n tk : Nat} (h : P.defs[tk]? = some ⟨2, 5, bTake⟩) : TakeOk (om P fu (n + 1)) tk := ⟨fun S l many p h0 h1 => by
  show ∃ d S', callN P fu (n + 1) tk [.ref l, .int many] S = _ ∧ _
  rw [call_eq h]
  exact take_ok _ p h0 h1⟩
def wNumber (tk : Nat) : Cs := (.cons (.set 3 (.bin .add (.bin .mul (.var 3) (.bin .pow (.cst (.int 10)) (.cst (.int 6)))) (.call tk (.cons (.var 0) (.cons (.bin .pow (.cst (.int 10)) (.cst (.int 6))) .nil)))))
      .nil)
def bNumber (tk : Nat) : Cs := (.cons (.set 1 (.call tk (.cons (.var 0) (.cons (.cst (.int 16)) .nil))))
  (.cons (.set 2 (.bin .sub (.cst (.int 1)) (.bin .mul (.cst (.int 2)) (.call tk (.cons (.var 0) (.cons (.cst (.int 2)) .nil))))))
  (.cons (.ife (.cmp .eq (.var 1) (.cst (.int 15))) (.cons (.set 3 (.call tk (.cons (.var 0) (.cons (.bin .pow (.cst (.int 10)) (.cst (.int 4))) .nil))))
    (.cons (.forr (.one 4) (.rng1 (.cst (.int 4))) (wNumber tk))
    (.cons (.ret (.bin .mul (.var 2) (.var 3)))
    .nil))) .nil)
  (.cons (.ret (.bin .mul (.var 2) (.call tk (.cons (.var 0) (.cons (.idx (.lsd false (.cons (.cst (.int 10)) (.cons (.cst (.int 1000)) .nil))) (.blt .int (.cons (.cmp .gt (.var 1) (.cst (.int 12))) .nil))) .nil)))))
  .nil))))
theorem ipow_le {a : Nat} (h : 0 < a) {i j : Nat} (hj : i ≤ j) : (a : Int) ^ i ≤ (a : Int) ^ j := by
  have := Nat.pow_le_pow_right h hj
  exact_mod_cast this
theorem p10 (e : Nat) (h : e ≤ 100) : powOk 10 (e : Int) = true := by
  have : ∀ e : Fin 101, powOk 10 ((e : Nat) : Int) = true := by decide +kernel
  exact this ⟨e, by omega⟩
theorem pow_at (e : Nat) (h : e ≤ 100) (S : Store) : bopV .pow (.int 10) (.int (e : Int)) S = .ok (.int (10 ^ e)) S := by
  rw [bop_pow_int (p10 e h)]
  simp
theorem pow_4 (S : Store) : bopV .pow (.int 10) (.int 4) S = .ok (.int 10000) S := pow_at 4 (by decide) S
theorem pow_6 (S : Store) : bopV .pow (.int 10) (.int 6) S = .ok (.int 1000000) S := pow_at 6 (by decide) S
theorem pow_9 (S : Store) : bopV .pow (.int 10) (.int 9) S = .ok (.int 1000000000) S := pow_at 9 (by decide) S
theorem pow_30 (S : Store) : bopV .pow (.int 10) (.int 30) S = .ok (.int 1000000000000000000000000000000) S := pow_at 30 (by decide) S
theorem num_ok {O : Om} {tk : Nat} (hT : TakeOk O tk) {S : Store} {l : Nat} (h : Purse S l) : ∃ d S', runD O ⟨1, 5, bNumber tk⟩ [.ref l] S = .ok (.int d) S' ∧ d.natAbs < 2 ^ 100 ∧ Drawn S l S' := by
  obtain ⟨w, S1, e1, w0, w1, D1⟩ := hT.at (many := 16) h (by decide) (by decide)
  obtain ⟨t, S2, e2, t0, t1, D2⟩ := hT.at (many := 2) D1.pu (by decide) (by decide)
  have m2 : mulOk 2 t = true := mulOk_l (by decide)
  have mt : ∀ x, mulOk (1 - 2 * t) x = true := fun x => mulOk_l (by omega)
  by_cases hw : w = 15
  · obtain ⟨x0, S3, e3, x00, x01, D3⟩ := hT.at (many := 10000) D2.pu (by decide) (by decide)
    obtain ⟨en', S4, e4, x, o, e5, e6, e7, e8⟩ := for_inv (cs := []) (xs := []) (t := .one 4) (b := fun en S => exS O (wNumber tk) en S)
      (fun k en S' => ∃ (x : Int) (o : Option Val), en = [some (.ref l), some (.int w), some (.int (1 - 2 * t)), some (.int x), o] ∧ 0 ≤ x ∧ x < 10000 * 1000000 ^ k ∧ Drawn S3 l S') (fun _ _ S _ => live_nil S) (rngL 0 (4 : Nat)) 0
      (fun j v en S' hj p => by
        obtain ⟨x, o, rfl, px, py, pd⟩ := p
        refine ⟨_, rfl, ?_⟩
        obtain ⟨y, S5, f1, f2, f3, f4⟩ := hT.at (many := 1000000) pd.pu (by decide) (by decide)
        have mx : mulOk x 1000000 = true := mulOk_r (by decide)
        refine ⟨[some (.ref l), some (.int w), some (.int (1 - 2 * t)), some (.int (x * 1000000 + y)), some v], S5, by simp [wNumber, pow_6, bop_mul_int mx, f1], x * 1000000 + y, some v, rfl, by omega, ?_, pd.trans f4⟩
        rw [Nat.zero_add] at py
        rw [Nat.zero_add, Int.pow_succ]
        omega) [some (.ref l), some (.int w), some (.int (1 - 2 * t)), some (.int x0), none] S3 ⟨x0, none, rfl, x00, by simpa using x01, .refl D3.pu⟩
    subst e5
    have hx : x < 10000000000000000000000000000 := by
      rw [rngL_len] at e7
      simpa using e7
    refine ⟨(1 - 2 * t) * x, S4, ?_, ?_, (D1.trans D2).trans (D3.trans e8)⟩
    · have er : rng1W (.int 4) S3 = .ok ⟨[], [], rngL 0 (4 : Nat)⟩ S3 := rng_ok (n := 4) (by decide)
      subst hw
      simp [runD, bNumber, start0, e1, e2, bop_mul_int m2, cmp_eq, pow_4, e3, er]
      simp at e4
      simp [e4, bop_mul_int (mt x)]
    · have : t = 0 ∨ t = 1 := by omega
      rcases this with rfl | rfl <;> omega
  · have hm : 0 < (if w > 12 then 1000 else 10 : Int) ∧ (if w > 12 then 1000 else 10 : Int) ≤ 1000 := by split <;> omega
    obtain ⟨y, S3, e3, y0, y1, D3⟩ := hT.at (many := if w > 12 then 1000 else 10) D2.pu hm.1 (by omega)
    refine ⟨(1 - 2 * t) * y, S3, ?_, ?_, (D1.trans D2).trans D3⟩
    · by_cases hg : w > 12
      · rw [if_pos hg] at e3
        simp [runD, bNumber, start0, e1, e2, bop_mul_int m2, cmp_eq, cmp_gt, hw, hg, mkL_f (sz_le (show [Val.int 10, Val.int 1000].length ≤ 1000000 by simp)), e3, bop_mul_int (mt y)]
      · rw [if_neg hg] at e3
        simp [runD, bNumber, start0, e1, e2, bop_mul_int m2, cmp_eq, cmp_gt, hw, hg, mkL_f (sz_le (show [Val.int 10, Val.int 1000].length ≤ 1000000 by simp)), e3, bop_mul_int (mt y)]
    · have : t = 0 ∨ t = 1 := by omega
      have : y < 1000 := by omega
      have h' : y.natAbs < 1000 := by omega
      rcases ‹t = 0 ∨ t = 1› with rfl | rfl <;> omega
end GW
set_option exponentiation.threshold 20000
/-! Core 32: what is a number. -/
namespace GW
open PySem PySem.NumText
def numb : Val → Bool
  | .int _ => true
  | _ => false
theorem numb_isi {S : Store} {v : Val} (h : (tyN S v).isSome = true) : (isiE S v ["int"] = some false ∧ numb v = false) ∨ (isiE S v ["int"] = some true ∧ isiE S v ["bool"] = some (!numb v)) := by
  obtain ⟨t, ht⟩ := Option.isSome_iff_exists.mp h
  unfold isiE
  cases v with
  | non => exact .inl ⟨rfl, rfl⟩
  | bl b => exact .inr ⟨rfl, rfl⟩
  | int i => exact .inr ⟨rfl, rfl⟩
  | str z => exact .inl ⟨rfl, rfl⟩
  | tup xs => exact .inl ⟨rfl, rfl⟩
  | lst xs => exact .inl ⟨rfl, rfl⟩
  | ref l =>
    rw [ht]
    refine .inl ⟨?_, rfl⟩
    unfold tyN at ht
    dsimp only at ht
    split at ht
    · cases ht; rfl
    · cases ht; rfl
    · cases ht
  | _ => cases ht
theorem numb_ev {O : Om} {S : Store} {v : Val} (h : (tyN S v).isSome = true) {en : Enm} {i : Nat} (he : en[i]? = some (some v)) : evE O (.and (.isi (.var i) ["int"]) (.not (.isi (.var i) ["bool"]))) en S = .ok (.bl (numb v)) S := by
  rcases numb_isi h with ⟨h1, h2⟩ | ⟨h1, h2⟩
  · simp [he, h1, h2]
  · simp [he, h1, h2]
def bIsNum : Cs := (.cons (.ret (.and (.isi (.var 0) ["int"]) (.not (.isi (.var 0) ["bool"])))) .nil)
theorem isnum_ok {O : Om} {S : Store} {v : Val} (h : (tyN S v).isSome = true) : runD O ⟨1, 1, bIsNum⟩ [v] S = .ok (.bl (numb v)) S := by
  have e := numb_ev (O := O) (S := S) (en := [some v]) (i := 0) h rfl
  simp [-ev_and, runD, bIsNum, start0, e]
/-! texts that are figures -/
def dig (c : Nat) : Bool := decide (48 ≤ c) && decide (c ≤ 57)
def figL : List Nat := [48, 49, 50, 51, 52, 53, 54, 55, 56, 57]
theorem fig_lit : Val.str "0123456789" = tS figL := rfl
theorem fig_mem (c : Nat) : decide (c ∈ figL) = dig c := by
  unfold figL dig
  rw [← Bool.decide_and, decide_eq_decide]
  simp only [List.mem_cons, List.not_mem_nil, or_false]
  omega
def fig (l : List Nat) : Bool := !decide (l = []) && l.all dig && (decide (l = [48]) || !decide (l.take 1 = [48]))
theorem all_dig {l : List Nat} (h : l.all dig = true) : AllDigits l := fun c hc => by
  have := List.all_eq_true.mp h c hc
  unfold dig at this
  simpa using this
theorem int_fig {l : List Nat} {S : Store} (h : fig l = true) (hl : l.length ≤ 600) : bltV .int [tS l] S = .ok (.int (digitsVal l)) S := by
  unfold fig at h
  simp only [Bool.and_eq_true] at h
  have e : PySem.intText? (⟨⟨l⟩⟩ : Str) = some ((digitsVal l : Nat) : Int) := intText_digits (x := ⟨⟨l⟩⟩) (all_dig h.1.2) (by simpa using h.1.1) (Nat.le_trans hl (by decide))
  show (match PySem.intText? (⟨⟨l⟩⟩ : Str) with
    | some n => if l.length ≤ 640 then Res.ok (Val.int n) S else .stk
    | none => .stk) = _
  rw [e]
  exact if_pos (by omega)
theorem blts_all (bs : List Bool) : bls? (bs.map Val.bl) = some bs := by
  induction bs with
  | nil => rfl
  | cons b bs ih =>
    show (bls? (bs.map Val.bl)).map (b :: ·) = _
    rw [ih]
    rfl
theorem all_ev {S : Store} (l : List Nat) (p : Nat → Bool) : bltV .all [.lst (l.map fun c => .bl (p c))] S = .ok (.bl (l.all p)) S := by
  have e : l.map (fun c => Val.bl (p c)) = (l.map p).map Val.bl := by simp
  show (match bls? (l.map fun c => Val.bl (p c)) with
      | some bs => Res.ok (Val.bl (bs.all id)) S
      | none => .stk) = _
  rw [e, blts_all]
  simp [List.all_map]
theorem lc_in {O : Om} {en : Enm} {S : Store} {l b : List Nat} {i : Nat} {g : E} (hi : i < en.length) (hb : ∀ en, evE O g en S = .ok (tS b) S) (hl : l.length ≤ 900) : lcF [tS l] [l.map fun c => tS [c]] (.one i) (fun en' S' => evC O .nil en' S') (fun en' S' => evE O (.cmp .inn (.var i) g) en' S') en (l.map fun c => tS [c]) [] S = .ok (l.map fun c => .bl (decide (c ∈ b))) S := by
  have := lc_all (cs := [tS l]) (xs := [l.map fun c => tS [c]]) (en := en) (S := S) (i := i) (test := fun en' S' => evC O .nil en' S') (elt := fun en' S' => evE O (.cmp .inn (.var i) g) en' S') (live_1 fun _ h => by cases h) (fun v => match v with
    | .str z => .bl (decide ((z.cps.toList.getD 0 0) ∈ b))
    | _ => .non) (its := l.map fun c => tS [c]) (acc := []) (by simp; omega) (fun v hv => by
    obtain ⟨c, hc, rfl⟩ := List.mem_map.mp hv
    refine ⟨rfl, ?_⟩
    have e : getS (en.set i (some (tS [c]))) i S = .ok (tS [c]) S := get_s _ _ (List.getElem?_set_self hi)
    rw [ev_cmp, ev_var, e, Res.bind_ok, hb, Res.bind_ok, in_s]
    rfl)
  rw [this]
  simp [tS]
theorem lc_nin {O : Om} {en : Enm} {S : Store} {l b : List Nat} {i : Nat} {g : E} (hi : i < en.length) (hb : ∀ en, evE O g en S = .ok (tS b) S) (hl : l.length ≤ 900) : lcF [tS l] [l.map fun c => tS [c]] (.one i) (fun en' S' => evC O (.cons (.cmp .nin (.var i) g) .nil) en' S') (fun en' S' => evE O (.var i) en' S') en (l.map fun c => tS [c]) [] S = .ok ((l.filter fun c => !decide (c ∈ b)).map fun c => tS [c]) S := by
  have := lc_filt (cs := [tS l]) (xs := [l.map fun c => tS [c]]) (en := en) (S := S) (i := i) (test := fun en' S' => evC O (.cons (.cmp .nin (.var i) g) .nil) en' S') (elt := fun en' S' => evE O (.var i) en' S') (live_1 fun _ h => by cases h) (fun v => match v with
    | .str z => !decide ((z.cps.toList.getD 0 0) ∈ b)
    | _ => false) (its := l.map fun c => tS [c]) (acc := []) (by simp; omega) (fun v hv => by
    obtain ⟨c, hc, rfl⟩ := List.mem_map.mp hv
    have e : getS (en.set i (some (tS [c]))) i S = .ok (tS [c]) S := get_s _ _ (List.getElem?_set_self hi)
    refine ⟨?_, ?_⟩
    · show evC O (.cons (.cmp .nin (.var i) g) .nil) _ S = _
      rw [evc_c, ev_cmp, ev_var, e, Res.bind_ok, hb, Res.bind_ok, nin_s]
      cases hd : decide (c ∈ b) <;> simp [tS, hd]
    · exact e)
  rw [this]
  simp [tS, List.filter_map]
  rfl
end GW
set_option exponentiation.threshold 20000
/-! Core 33: texts put together. -/
namespace GW
open PySem
section
variable {S : Store}
theorem add_s {a b : List Nat} (h : a.length + b.length ≤ 2000) : bopV .add (tS a) (tS b) S = .ok (tS (a ++ b)) S := by
  show (if a.length + b.length ≤ sizeLine then Res.ok (Val.str ((⟨⟨a⟩⟩ : Str) ++ (⟨⟨b⟩⟩ : Str))) S else .stk) = _
  rw [if_pos (Nat.le_trans h (by decide))]
  show Res.ok (Val.str ⟨(⟨a⟩ : Array Nat) ++ ⟨b⟩⟩) S = _
  simp [tS]
theorem Asc.app {a b : List Nat} (h : Asc a) (h' : Asc b) : Asc (a ++ b) := fun c hc => by
  rcases List.mem_append.mp hc with q | q
  · exact h c q
  · exact h' c q
theorem Asc.take {a : List Nat} (h : Asc a) (k : Nat) : Asc (a.take k) := fun c hc => h c (List.mem_of_mem_take hc)
theorem Asc.drop {a : List Nat} (h : Asc a) (k : Nat) : Asc (a.drop k) := fun c hc => h c (List.mem_of_mem_drop hc)
theorem slc_mid {l : List Nat} (k : Nat) (h : l.length ≤ 1000) (ha : Asc l) : ∃ m, slcV (tS l) (some (k : Int)) (some ((k : Int) + 1)) S = .ok (tS m) S ∧ m.length ≤ 1 ∧ Asc m := by
  refine ⟨(l.drop (min k l.length)).take (min (k + 1) l.length - min k l.length), ?_, ?_, (ha.drop _).take _⟩
  · show (if l.length ≤ sizeLine then _ else _) = _
    rw [if_pos (Nat.le_trans h (by decide))]
    show Res.ok (Val.str ⟨((l.drop (HT.sIx l.length 0 (some (k : Int)))).take (HT.sIx l.length l.length (some ((k : Int) + 1)) - HT.sIx l.length 0 (some (k : Int)))).toArray⟩) S = _
    rw [show ((k : Int) + 1) = ((k + 1 : Nat) : Int) by omega, HT.sIx_nat, HT.sIx_nat]
    rfl
  · rw [List.length_take]
    omega
theorem idx_sN {l : List Nat} {i c : Nat} (h : l.length ≤ 1000) (hc : l[i]? = some c) : idxV (tS l) (.int i) S = .ok (tS [c]) S := by
  show (if l.length ≤ sizeLine then _ else _) = _
  rw [if_pos (Nat.le_trans h (by decide))]
  show (match L2.atI l i with
    | some c => Res.ok (Val.str ⟨#[c]⟩) S
    | none => .stk) = _
  have hl := (List.getElem?_eq_some_iff.mp hc).1
  have : L2.atI l (i : Int) = some c := by
    unfold L2.atI L2.ixN
    rw [if_pos (by omega), if_pos (by omega)]
    simpa using hc
  rw [this]
  rfl
end
end GW
set_option exponentiation.threshold 20000
/-! Core 34: comprehensions that draw; texts joined. -/
namespace GW
open PySem
end GW
set_option exponentiation.threshold 20000
/-! Core 35: walking forward: what an answer is asked for, statement by statement. -/
namespace GW
open PySem
abbrev Xt := Nat → List Val → Store → Prop
def nX : Xt := fun _ _ _ => False
class Bx (β : Type) where
  v : β
def W' {α : Type} (r : Res α) [Q : Bx (α → Store → Prop)] [X : Bx Xt] : Prop := match r with
  | .ok a S => Q.v a S
  | .exc c fs S => X.v c fs S
  | .stk => False
abbrev W {α : Type} (r : Res α) (Q : α → Store → Prop) (X : Xt) : Prop := @W' α r ⟨Q⟩ ⟨X⟩
def WF' (f : Fl) [N : Bx (Enm → Store → Prop)] [R : Bx (Val → Store → Prop)] [X : Bx (Nat → List Val → Enm → Store → Prop)] : Prop := match f with
  | .nx en S => N.v en S
  | .rt v S => R.v v S
  | .ex c fs en S => X.v c fs en S
  | .stk => False
abbrev WF (f : Fl) (N : Enm → Store → Prop) (R : Val → Store → Prop) (X : Nat → List Val → Enm → Store → Prop) : Prop := @WF' f ⟨N⟩ ⟨R⟩ ⟨X⟩
theorem W.mono {α : Type} {r : Res α} {Q Q' : α → Store → Prop} {X X' : Xt} (h : W r Q X) (hq : ∀ a S, Q a S → Q' a S) (hx : ∀ c fs S, X c fs S → X' c fs S) : W r Q' X' := by
  cases r with
  | ok a S => exact hq _ _ h
  | exc c fs S => exact hx _ _ _ h
  | stk => exact h
theorem WF.mono {f : Fl} {N N' : Enm → Store → Prop} {R R' : Val → Store → Prop} {X X' : Nat → List Val → Enm → Store → Prop} (h : WF f N R X) (hn : ∀ en S, N en S → N' en S) (hr : ∀ v S, R v S → R' v S) (hx : ∀ c fs en S, X c fs en S → X' c fs en S) : WF f N' R' X' := by
  cases f with
  | nx en S => exact hn _ _ h
  | rt v S => exact hr _ _ h
  | ex c fs en S => exact hx _ _ _ _ h
  | stk => exact h
theorem W.of {α : Type} {r : Res α} {a : α} {S : Store} {Q : α → Store → Prop} {X : Xt} (e : r = .ok a S) (h : Q a S) : W r Q X := by rw [e]; exact h
theorem W.get {α : Type} {r : Res α} {Q : α → Store → Prop} (h : W r Q nX) : ∃ a S, r = .ok a S ∧ Q a S := by
  cases r with
  | ok a S => exact ⟨a, S, rfl, h⟩
  | exc c fs S => exact h.elim
  | stk => exact h.elim
section
variable {α : Type} {O : Om} {en : Enm} {S : Store} {Q : Val → Store → Prop} {X : Xt} {N : Enm → Store → Prop} {R : Val → Store → Prop} {Y : Nat → List Val → Enm → Store → Prop}
theorem W_ok {a : α} {Q : α → Store → Prop} : W (.ok a S) Q X = Q a S := (rfl)
theorem W_exc {c : Nat} {fs : List Val} {Q : α → Store → Prop} : W (.exc c fs S) Q X = X c fs S := (rfl)
theorem W_bind {β : Type} {r : Res α} {g : α → Store → Res β} {Q : β → Store → Prop} : W (r.bind g) Q X = W r (fun a S => W (g a S) Q X) X := by cases r <;> rfl
theorem WF_to {r : Res α} {g : α → Store → Fl} : WF (r.to en g) N R Y = W r (fun a S => WF (g a S) N R Y) (fun c fs S => Y c fs en S) := by cases r <;> rfl
theorem WF_then {f : Fl} {g : Enm → Store → Fl} : WF (f.then g) N R Y = WF f (fun en S => WF (g en S) N R Y) R Y := by cases f <;> rfl
theorem WF_nx : WF (.nx en S) N R Y = N en S := (rfl)
theorem WF_rt {v : Val} : WF (.rt v S) N R Y = R v S := (rfl)
theorem WF_ex {c : Nat} {fs : List Val} : WF (.ex c fs en S) N R Y = Y c fs en S := (rfl)
theorem W_ite {c : Prop} [Decidable c] {a b : Res α} {Q : α → Store → Prop} : W (if c then a else b) Q X = if c then W a Q X else W b Q X := by split <;> rfl
theorem WF_ite {c : Prop} [Decidable c] {a b : Fl} : WF (if c then a else b) N R Y = if c then WF a N R Y else WF b N R Y := by split <;> rfl
theorem W_cst (v : Val) : W (evE O (.cst v) en S) Q X = Q v S := (rfl)
theorem W_var (i : Nat) : W (evE O (.var i) en S) Q X = W (getS en i S) Q X := (rfl)
theorem W_glo (x : Str) (v : Val) : W (evE O (.glo x v) en S) Q X = Q v S := (rfl)
theorem W_bin (o : Bop) (a b : E) : W (evE O (.bin o a b) en S) Q X = W (evE O a en S) (fun x S1 => W (evE O b en S1) (fun y S2 => W (bopV o x y S2) Q X) X) X := by
  rw [ev_bin, W_bind]; simp only [W_bind]
theorem W_neg (a : E) : W (evE O (.neg a) en S) Q X = W (evE O a en S) (fun x S1 => W (negV x S1) Q X) X := by rw [ev_neg, W_bind]
theorem W_not (a : E) : W (evE O (.not a) en S) Q X = W (evE O a en S) (fun x S1 => W (truR x S1) (fun c S2 => Q (.bl (!c)) S2) X) X := by
  rw [ev_not, W_bind]; simp only [W_bind]; rfl
theorem W_and (a b : E) : W (evE O (.and a b) en S) Q X = W (evE O a en S) (fun x S1 => W (truR x S1) (fun c S2 => if c = true then W (evE O b en S2) Q X else Q x S2) X) X := by
  rw [ev_and, W_bind]; simp only [W_bind, W_ite]; rfl
theorem W_or (a b : E) : W (evE O (.or a b) en S) Q X = W (evE O a en S) (fun x S1 => W (truR x S1) (fun c S2 => if c = true then Q x S2 else W (evE O b en S2) Q X) X) X := by
  rw [ev_or, W_bind]; simp only [W_bind, W_ite]; rfl
theorem W_cmp (o : Cop) (a b : E) : W (evE O (.cmp o a b) en S) Q X = W (evE O a en S) (fun x S1 => W (evE O b en S1) (fun y S2 => W (optB S2 (cmpE o x y S2)) Q X) X) X := by
  rw [ev_cmp, W_bind]; simp only [W_bind]
theorem W_chn (o p : Cop) (a b c : E) : W (evE O (.chn o p a b c) en S) Q X = W (evE O a en S) (fun x S1 => W (evE O b en S1) (fun y S2 => W (optB S2 (cmpE o x y S2)) (fun d S3 => W (truR d S3) (fun d S3 => if d = true then W (evE O c en S3) (fun z S4 => W (optB S4 (cmpE p y z S4)) Q X) X else Q (.bl false) S3) X) X) X) X := by
  rw [ev_chn, W_bind]; simp only [W_bind]
  congr 1; funext x S1; congr 1; funext y S2
  cases cmpE o x y S2 with
  | none => rfl
  | some b => cases b <;> simp [optB, W_ok, W_bind]
theorem W_ife (c a b : E) : W (evE O (.ife c a b) en S) Q X = W (evE O c en S) (fun x S1 => W (truR x S1) (fun d S2 => if d = true then W (evE O a en S2) Q X else W (evE O b en S2) Q X) X) X := by
  rw [ev_ife, W_bind]; simp only [W_bind, W_ite]
theorem W_isi (a : E) (ts : List String) : W (evE O (.isi a ts) en S) Q X = W (evE O a en S) (fun x S1 => W (optB S1 (isiE S1 x ts)) Q X) X := by rw [ev_isi, W_bind]
theorem W_idx (a i : E) : W (evE O (.idx a i) en S) Q X = W (evE O a en S) (fun x S1 => W (evE O i en S1) (fun y S2 => W (idxV x y S2) Q X) X) X := by
  rw [ev_idx, W_bind]; simp only [W_bind]
theorem W_slc (a : E) (lo hi : Po) : W (evE O (.slc a lo hi) en S) Q X = W (evE O a en S) (fun x S1 => W (evP O lo en S1) (fun l S2 => W (evP O hi en S2) (fun h S3 => W (slcV x l h S3) Q X) X) X) X := by
  rw [ev_slc, W_bind]; simp only [W_bind]
theorem W_slcR (a : E) (lo hi : Po) : W (evE O (.slcR a lo hi) en S) Q X = W (evE O a en S) (fun x S1 => W (evP O lo en S1) (fun l S2 => W (evP O hi en S2) (fun h S3 => W (slcRV x l h S3) Q X) X) X) X := by
  rw [ev_slcR, W_bind]; simp only [W_bind]
theorem W_tpd (es : Es) : W (evE O (.tpd es) en S) Q X = W (evs O es en S) (fun xs S1 => W (mkT xs S1) Q X) X := by rw [ev_tpd, W_bind]
theorem W_lsd (b : Bool) (es : Es) : W (evE O (.lsd b es) en S) Q X = W (evs O es en S) (fun xs S1 => W (mkL b xs S1) Q X) X := by rw [ev_lsd, W_bind]
theorem W_dcd (ks vs : Es) : W (evE O (.dcd ks vs) en S) Q X = W (evs O ks en S) (fun ks S1 => W (evs O vs en S1) (fun vs S2 => W (mkD ks vs S2) Q X) X) X := by
  rw [ev_dcd, W_bind]; simp only [W_bind]
theorem W_blt (f : Blt) (es : Es) : W (evE O (.blt f es) en S) Q X = W (evs O es en S) (fun xs S1 => W (bltV f xs S1) Q X) X := by rw [ev_blt, W_bind]
theorem W_call (f : Nat) (es : Es) : W (evE O (.call f es) en S) Q X = W (evs O es en S) (fun xs S1 => W (O.call f xs S1) Q X) X := by rw [ev_call, W_bind]
theorem W_mth (m : Mth) (o : E) (es : Es) : W (evE O (.mth m o es) en S) Q X = W (evE O o en S) (fun x S1 => if tyOk m x S1 = true then W (evs O es en S1) (fun xs S2 => W (mthV m x xs S2) Q X) X else False) X := by
  rw [ev_mth, W_bind]; simp only [W_bind, W_ite]; rfl
theorem W_lc (b : Bool) (t : Tg) (it : It) (cs : Es) (e : E) : W (evE O (.lc b t it cs e) en S) Q X = W (evI O it en S) (fun wk S1 => W (lcF wk.cs wk.xs t (fun en' S' => evC O cs en' S') (fun en' S' => evE O e en' S') en wk.its [] S1) (fun ys S2 => W (mkL b ys S2) Q X) X) X := by
  rw [ev_lc, W_bind]; simp only [W_bind]
theorem W_callD (f : Nat) (es : Es) (ds : List Val) : W (evE O (.callD f es ds) en S) Q X = W (evs O es en S) (fun xs S1 => W (O.call f (xs ++ ds) S1) Q X) X := by rw [ev_callD, W_bind]
theorem Ws_n {Q : List Val → Store → Prop} : W (evs O .nil en S) Q X = Q [] S := (rfl)
theorem Ws_c (e : E) (es : Es) {Q : List Val → Store → Prop} : W (evs O (.cons e es) en S) Q X = W (evE O e en S) (fun x S1 => W (evs O es en S1) (fun xs S2 => Q (x :: xs) S2) X) X := by
  rw [evs_c, W_bind]; simp only [W_bind]; rfl
theorem Wp_n {Q : Option Int → Store → Prop} : W (evP O .no en S) Q X = Q none S := (rfl)
def intQ (Q : Option Int → Store → Prop) : Val → Store → Prop := fun x S => match x with
  | .int i => Q (some i) S
  | _ => False
theorem intQ_i {Q : Option Int → Store → Prop} (i : Int) : intQ Q (.int i) S = Q (some i) S := (rfl)
theorem Wp_y (e : E) {Q : Option Int → Store → Prop} : W (evP O (.yes e) en S) Q X = W (evE O e en S) (intQ Q) X := by
  rw [evp_y, W_bind]
  congr 1; funext x S1; cases x <;> rfl
theorem Wc_n {Q : Bool → Store → Prop} : W (evC O .nil en S) Q X = Q true S := (rfl)
theorem Wc_c (e : E) (es : Es) {Q : Bool → Store → Prop} : W (evC O (.cons e es) en S) Q X = W (evE O e en S) (fun x S1 => W (truR x S1) (fun c S2 => if c = true then W (evC O es en S2) Q X else Q false S2) X) X := by
  rw [evc_c, W_bind]; simp only [W_bind, W_ite]; rfl
theorem Wi_val (e : E) {Q : Wk → Store → Prop} : W (evI O (.val e) en S) Q X = W (evE O e en S) (fun v S1 => ∃ xs, items S1 v = some xs ∧ Q ⟨[v], [xs], xs⟩ S1) X := by
  rw [evi_val, W_bind]
  congr 1; funext v S1
  cases items S1 v with
  | none => simp [W, W']
  | some xs => simp [W, W']
theorem Wi_rng1 (e : E) {Q : Wk → Store → Prop} : W (evI O (.rng1 e) en S) Q X = W (evE O e en S) (fun v S1 => W (rng1W v S1) Q X) X := by rw [evi_rng1, W_bind]
theorem Wi_rng2 (a b : E) {Q : Wk → Store → Prop} : W (evI O (.rng2 a b) en S) Q X = W (evE O a en S) (fun v S1 => W (evE O b en S1) (fun u S2 => W (rng2W v u S2) Q X) X) X := by
  rw [evi_rng2, W_bind]; simp only [W_bind]
theorem Wi_enm (e : E) {Q : Wk → Store → Prop} : W (evI O (.enm e) en S) Q X = W (evE O e en S) (fun v S1 => W (enmW v S1) Q X) X := by rw [evi_enm, W_bind]
theorem Wi_zip (a b : E) {Q : Wk → Store → Prop} : W (evI O (.zip a b) en S) Q X = W (evE O a en S) (fun v S1 => W (evE O b en S1) (fun u S2 => W (zipW v u S2) Q X) X) X := by
  rw [evi_zip, W_bind]; simp only [W_bind]
theorem Wi_rev (e : E) {Q : Wk → Store → Prop} : W (evI O (.rev e) en S) Q X = W (evE O e en S) (fun v S1 => W (revW v S1) Q X) X := by rw [evi_rev, W_bind]
theorem F_set (i : Nat) (e : E) : WF (exC O (.set i e) en S) N R Y = W (evE O e en S) (fun v S1 => N (en.set i (some v)) S1) (fun c fs S1 => Y c fs en S1) := by rw [ex_set, WF_to]; rfl
theorem F_tset (is : List Nat) (e : E) : WF (exC O (.tset is e) en S) N R Y = W (evE O e en S) (fun v S1 => ∃ en', putT (.tup is) v en = some en' ∧ N en' S1) (fun c fs S1 => Y c fs en S1) := by
  rw [ex_tset, WF_to]
  congr 1; funext v S1
  cases putT (.tup is) v en <;> simp [WF, WF']
theorem F_par (i j : Nat) (a b : E) : WF (exC O (.par i j a b) en S) N R Y = W (evE O a en S) (fun x S1 => W (evE O b en S1) (fun y S2 => N ((en.set i (some x)).set j (some y)) S2) (fun c fs S1 => Y c fs en S1)) (fun c fs S1 => Y c fs en S1) := by
  rw [ex_par, WF_to]; simp only [WF_to]; rfl
theorem F_sset (a i e : E) : WF (exC O (.sset a i e) en S) N R Y = W (evE O e en S) (fun v S1 => W (evE O a en S1) (fun x S2 => W (evE O i en S2) (fun k S3 => ∃ S4, setSub x k v S3 = some S4 ∧ N en S4) (fun c fs S1 => Y c fs en S1)) (fun c fs S1 => Y c fs en S1)) (fun c fs S1 => Y c fs en S1) := by
  rw [ex_sset, WF_to]; simp only [WF_to]
  congr 1; funext v S1; congr 1; funext x S2; congr 1; funext k S3
  cases setSub x k v S3 <;> simp [WF, WF']
theorem F_exp (e : E) : WF (exC O (.exp e) en S) N R Y = W (evE O e en S) (fun _ S1 => N en S1) (fun c fs S1 => Y c fs en S1) := by rw [ex_exp, WF_to]; rfl
theorem F_ret (e : E) : WF (exC O (.ret e) en S) N R Y = W (evE O e en S) (fun v S1 => R v S1) (fun c fs S1 => Y c fs en S1) := by rw [ex_ret, WF_to]; rfl
theorem F_retN : WF (exC O .retN en S) N R Y = R .non S := (rfl)
theorem F_pas : WF (exC O .pas en S) N R Y = N en S := (rfl)
theorem F_ife (c : E) (a b : Cs) : WF (exC O (.ife c a b) en S) N R Y = W (evE O c en S) (fun x S1 => W (truR x S1) (fun d S2 => if d = true then WF (exS O a en S2) N R Y else WF (exS O b en S2) N R Y) (fun c fs S1 => Y c fs en S1)) (fun c fs S1 => Y c fs en S1) := by
  rw [ex_ife, WF_to, W_bind]; simp only [WF_ite]
theorem F_for (t : Tg) (it : It) (b : Cs) : WF (exC O (.forr t it b) en S) N R Y = W (evI O it en S) (fun wk S1 => WF (forF wk.cs wk.xs t (fun en S => exS O b en S) wk.its en S1) N R Y) (fun c fs S1 => Y c fs en S1) := by rw [ex_forr, WF_to]
theorem F_rai (c : Nat) (es : Es) : WF (exC O (.rai c es) en S) N R Y = W (evs O es en S) (fun xs S1 => Y c xs.reverse en S1) (fun c fs S1 => Y c fs en S1) := by rw [ex_rai, WF_to]; rfl
theorem F_tri (b : Cs) (hs : Hs) : WF (exC O (.tri b hs) en S) N R Y = WF (exS O b en S) N R (fun c fs en' S' => c < O.nc ∧ WF (exH O hs c fs en' S') N R Y) := by
  rw [ex_tri]
  cases exS O b en S with
  | ex c fs en' S' => by_cases h : c < O.nc <;> simp [h, WF, WF']
  | _ => rfl
theorem S_n : WF (exS O .nil en S) N R Y = N en S := (rfl)
theorem S_c (c : C) (cs : Cs) : WF (exS O (.cons c cs) en S) N R Y = WF (exC O c en S) (fun en S => WF (exS O cs en S) N R Y) R Y := by rw [exs_c, WF_then]
theorem H_n (c : Nat) (fs : List Val) : WF (exH O .nil c fs en S) N R Y = Y c fs en S := (rfl)
theorem H_some (k i : Nat) (b : Cs) (hs : Hs) (c : Nat) (fs : List Val) : WF (exH O (.cons k (some i) b hs) c fs en S) N R Y = if O.sub c k = true then (c = k ∧ WF (exS O b (en.set i none ++ [some (.exc c fs)]) S) (fun en' S' => N ((en'.take en.length).set i none) S') R (fun _ _ _ _ => False)) else WF (exH O hs c fs en S) N R Y := by
  rw [exh_c, WF_ite]
  congr 1
  dsimp only
  by_cases h : c = k
  · rw [if_pos h]
    cases exS O b (en.set i none ++ [some (.exc c fs)]) S <;> simp [Fl.out, WF, WF', h]
  · rw [if_neg h]; simp [WF, WF', h]
theorem H_none (k : Nat) (b : Cs) (hs : Hs) (c : Nat) (fs : List Val) : WF (exH O (.cons k none b hs) c fs en S) N R Y = if O.sub c k = true then WF (exS O b en S) N R (fun _ _ _ _ => False) else WF (exH O hs c fs en S) N R Y := by
  rw [exh_c, WF_ite]
  congr 1
  show WF (exS O b en S).noX N R Y = _
  cases exS O b en S <;> rfl
theorem W_run {d : Df} {vs : List Val} (hn : vs.length = d.np) : W (runD O d vs S) Q X = WF (exS O d.body (start0 d vs) S) (fun _ S' => Q .non S') Q (fun c fs _ S' => X c fs S') := by
  unfold runD
  rw [if_pos hn]
  cases exS O d.body (start0 d vs) S <;> rfl
/-! leaves -/
theorem getS_s {o : Option Val} {r : Enm} {i : Nat} : getS (o :: r) (i + 1) S = getS r i S := (rfl)
theorem getS_0 {v : Val} {r : Enm} : getS (some v :: r) 0 S = .ok v S := (rfl)
theorem W_optB (b : Bool) : W (optB S (some b)) Q X = Q (.bl b) S := (rfl)
theorem W_truB (b : Bool) {Q : Bool → Store → Prop} : W (truR (.bl b) S) Q X = Q b S := (rfl)
theorem W_mkT {xs : List Val} : W (mkT xs S) Q X = (xs.length ≤ 16777216 ∧ Q (.tup xs) S) := by
  unfold mkT
  have : sizeLine = 16777216 := by decide
  rw [this]
  by_cases h : xs.length ≤ 16777216 <;> simp [h, W, W']
theorem W_newR {xs : List Val} : W (newR xs S) Q X = (xs.length ≤ 16777216 ∧ Q (.ref S.length) (S ++ [.lst xs])) := by
  unfold newR
  have : sizeLine = 16777216 := by decide
  rw [this]
  by_cases h : xs.length ≤ 16777216 <;> simp [h, W, W']
theorem W_mkLf {xs : List Val} : W (mkL false xs S) Q X = (xs.length ≤ 16777216 ∧ Q (.lst xs) S) := by
  unfold mkL
  have : sizeLine = 16777216 := by decide
  rw [this]
  by_cases h : xs.length ≤ 16777216 <;> simp [h, W, W']
theorem W_mkLt {xs : List Val} : W (mkL true xs S) Q X = (xs.length ≤ 16777216 ∧ Q (.ref S.length) (S ++ [.lst xs])) := by
  unfold mkL
  have : sizeLine = 16777216 := by decide
  rw [this]
  by_cases h : xs.length ≤ 16777216 <;> simp [h, W, W']
theorem W_add (i j : Int) : W (bopV .add (.int i) (.int j) S) Q X = Q (.int (i + j)) S := (rfl)
theorem W_sub (i j : Int) : W (bopV .sub (.int i) (.int j) S) Q X = Q (.int (i - j)) S := (rfl)
theorem W_mul (i j : Int) : W (bopV .mul (.int i) (.int j) S) Q X = (mulOk i j = true ∧ Q (.int (i * j)) S) := by
  show W (if mulOk i j = true then _ else _) Q X = _
  by_cases h : mulOk i j = true <;> simp [h, W, W']
theorem W_div (i j : Int) : W (bopV .div (.int i) (.int j) S) Q X = (divOk i j = true ∧ Q (.int (i.fdiv j)) S) := by
  show W (if divOk i j = true then _ else _) Q X = _
  by_cases h : divOk i j = true <;> simp [h, W, W']
theorem W_mod (i j : Int) : W (bopV .mod (.int i) (.int j) S) Q X = (j ≠ 0 ∧ Q (.int (i.fmod j)) S) := by
  show W (if j ≠ 0 then _ else _) Q X = _
  by_cases h : j = 0 <;> simp [h, W, W']
theorem W_addL {a b : List Val} : W (bopV .add (.lst a) (.lst b) S) Q X = (a.length + b.length ≤ 16777216 ∧ Q (.lst (a ++ b)) S) := by
  have : sizeLine = 16777216 := by decide
  show W (lim _ _ S) Q X = _
  unfold lim
  rw [this]
  by_cases h : a.length + b.length ≤ 16777216 <;> simp [h, W, W']
theorem W_addT {a b : List Val} : W (bopV .add (.tup a) (.tup b) S) Q X = (a.length + b.length ≤ 16777216 ∧ Q (.tup (a ++ b)) S) := by
  have : sizeLine = 16777216 := by decide
  show W (lim _ _ S) Q X = _
  unfold lim
  rw [this]
  by_cases h : a.length + b.length ≤ 16777216 <;> simp [h, W, W']
theorem W_lenT {xs : List Val} : W (bltV .len [.tup xs] S) Q X = Q (.int xs.length) S := (rfl)
theorem W_lenL {xs : List Val} : W (bltV .len [.lst xs] S) Q X = Q (.int xs.length) S := (rfl)
theorem W_lenC {xs : List Val} : W (bltV .len [.scr xs] S) Q X = Q (.int xs.length) S := (rfl)
theorem W_abs {i : Int} : W (bltV .abs [.int i] S) Q X = Q (.int i.natAbs) S := by rw [abs_int]; rfl
theorem W_intB (b : Bool) : W (bltV .int [.bl b] S) Q X = Q (.int (if b = true then 1 else 0)) S := (rfl)
theorem W_intI (i : Int) : W (bltV .int [.int i] S) Q X = Q (.int i) S := (rfl)
theorem W_tupleL {xs : List Val} : W (bltV .tuple [.lst xs] S) Q X = Q (.tup xs) S := (rfl)
theorem W_tupleT {xs : List Val} : W (bltV .tuple [.tup xs] S) Q X = Q (.tup xs) S := (rfl)
theorem W_listL {xs : List Val} : W (bltV .list [.lst xs] S) Q X = W (mkL false xs S) Q X := (rfl)
theorem W_listT {xs : List Val} : W (bltV .list [.tup xs] S) Q X = W (mkL false xs S) Q X := (rfl)
theorem W_listRL {xs : List Val} : W (bltV .listR [.lst xs] S) Q X = W (mkL true xs S) Q X := (rfl)
theorem W_listRT {xs : List Val} : W (bltV .listR [.tup xs] S) Q X = W (mkL true xs S) Q X := (rfl)
theorem W_neg' (i : Int) : W (negV (.int i) S) Q X = Q (.int (-i)) S := (rfl)
theorem W_max2 (i j : Int) : W (bltV .max2 [.int i, .int j] S) Q X = Q (.int (max i j)) S := by
  show Q (.int (if j > i then j else i)) S = _
  congr 2; omega
theorem W_min2 (i j : Int) : W (bltV .min2 [.int i, .int j] S) Q X = Q (.int (min i j)) S := by
  show Q (.int (if j < i then j else i)) S = _
  congr 2; omega
theorem W_eqI (i j : Int) : W (optB S (cmpE .eq (.int i) (.int j) S)) Q X = Q (.bl (decide (i = j))) S := (rfl)
theorem W_neI (i j : Int) : W (optB S (cmpE .ne (.int i) (.int j) S)) Q X = Q (.bl (!decide (i = j))) S := (rfl)
theorem W_ltI (i j : Int) : W (optB S (cmpE .lt (.int i) (.int j) S)) Q X = Q (.bl (decide (i < j))) S := (rfl)
theorem W_leI (i j : Int) : W (optB S (cmpE .le (.int i) (.int j) S)) Q X = Q (.bl (decide (i ≤ j))) S := (rfl)
theorem W_gtI (i j : Int) : W (optB S (cmpE .gt (.int i) (.int j) S)) Q X = Q (.bl (decide (j < i))) S := (rfl)
theorem W_geI (i j : Int) : W (optB S (cmpE .ge (.int i) (.int j) S)) Q X = Q (.bl (decide (j ≤ i))) S := (rfl)
theorem W_idxT0 {x : Val} {xs : List Val} : W (idxV (.tup (x :: xs)) (.int 0) S) Q X = Q x S := by rw [idx_tup0]; rfl
theorem W_idxT1 {x y : Val} {xs : List Val} : W (idxV (.tup (x :: y :: xs)) (.int 1) S) Q X = Q y S := by rw [idx_tup1]; rfl
theorem W_idxT2 {x y z : Val} {xs : List Val} : W (idxV (.tup (x :: y :: z :: xs)) (.int 2) S) Q X = Q z S := by
  unfold idxV; dsimp only; rw [ix_2]; rfl
theorem W_idxLN {xs : List Val} {k : Nat} {v : Val} (h : xs[k]? = some v) : W (idxV (.lst xs) (.int k) S) Q X = Q v S := by
  unfold idxV; dsimp only; rw [ix_nat h]; rfl
theorem W_rng {n : Nat} {Q : Wk → Store → Prop} (h : n < 4611686018427387904) : W (rng1W (.int n) S) Q X = Q ⟨[], [], rngL 0 n⟩ S := by rw [rng_ok h]; rfl
theorem items_t (xs : List Val) : items S (.tup xs) = some xs := (rfl)
theorem items_l (xs : List Val) : items S (.lst xs) = some xs := (rfl)
theorem W_enmT {xs : List Val} {Q : Wk → Store → Prop} : W (enmW (.tup xs) S) Q X = Q ⟨[], [], xs.mapIdx fun (k : Nat) x => .tup [.int k, x]⟩ S := (rfl)
theorem W_enmL {xs : List Val} {Q : Wk → Store → Prop} : W (enmW (.lst xs) S) Q X = Q ⟨[.lst xs], [xs], xs.mapIdx fun (k : Nat) x => .tup [.int k, x]⟩ S := (rfl)
theorem W_zipTT {xs ys : List Val} {Q : Wk → Store → Prop} : W (zipW (.tup xs) (.tup ys) S) Q X = Q ⟨[], [], (xs.zip ys).map fun p => .tup [p.1, p.2]⟩ S := (rfl)
theorem W_zipLL {xs ys : List Val} {Q : Wk → Store → Prop} : W (zipW (.lst xs) (.lst ys) S) Q X = Q ⟨[.lst xs, .lst ys], [xs, ys], (xs.zip ys).map fun p => .tup [p.1, p.2]⟩ S := (rfl)
theorem ex_some {α : Type} {v : α} {p : α → Prop} : (∃ x, some v = some x ∧ p x) = p v := by
  apply propext
  constructor
  · rintro ⟨x, e, h⟩
    cases e
    exact h
  · exact fun h => ⟨v, rfl, h⟩
end
/-! isinstance -/
section
variable {S : Store} {b : Bool} {i : Int} {z : Str} {xs : List Val}
theorem isi_t_int : isiE S (.tup xs) ["int"] = some false := (rfl)
theorem isi_t_bool : isiE S (.tup xs) ["bool"] = some false := (rfl)
theorem isi_t_str : isiE S (.tup xs) ["str"] = some false := (rfl)
theorem isi_t_tup : isiE S (.tup xs) ["tuple"] = some true := (rfl)
theorem isi_t_lst : isiE S (.tup xs) ["list"] = some false := (rfl)
theorem isi_t_lt : isiE S (.tup xs) ["list", "tuple"] = some true := (rfl)
theorem isi_l_int : isiE S (.lst xs) ["int"] = some false := (rfl)
theorem isi_l_bool : isiE S (.lst xs) ["bool"] = some false := (rfl)
theorem isi_l_str : isiE S (.lst xs) ["str"] = some false := (rfl)
theorem isi_l_tup : isiE S (.lst xs) ["tuple"] = some false := (rfl)
theorem isi_l_lst : isiE S (.lst xs) ["list"] = some true := (rfl)
theorem isi_l_lt : isiE S (.lst xs) ["list", "tuple"] = some true := (rfl)
theorem isi_i_int : isiE S (.int i) ["int"] = some true := (rfl)
theorem isi_i_bool : isiE S (.int i) ["bool"] = some false := (rfl)
theorem isi_i_str : isiE S (.int i) ["str"] = some false := (rfl)
theorem isi_i_tup : isiE S (.int i) ["tuple"] = some false := (rfl)
theorem isi_i_lst : isiE S (.int i) ["list"] = some false := (rfl)
theorem isi_i_lt : isiE S (.int i) ["list", "tuple"] = some false := (rfl)
theorem isi_b_int : isiE S (.bl b) ["int"] = some true := (rfl)
theorem isi_b_bool : isiE S (.bl b) ["bool"] = some true := (rfl)
theorem isi_b_str : isiE S (.bl b) ["str"] = some false := (rfl)
theorem isi_b_tup : isiE S (.bl b) ["tuple"] = some false := (rfl)
theorem isi_b_lst : isiE S (.bl b) ["list"] = some false := (rfl)
theorem isi_b_lt : isiE S (.bl b) ["list", "tuple"] = some false := (rfl)
theorem isi_s_int : isiE S (.str z) ["int"] = some false := (rfl)
theorem isi_s_bool : isiE S (.str z) ["bool"] = some false := (rfl)
theorem isi_s_str : isiE S (.str z) ["str"] = some true := (rfl)
theorem isi_s_tup : isiE S (.str z) ["tuple"] = some false := (rfl)
theorem isi_s_lst : isiE S (.str z) ["list"] = some false := (rfl)
theorem isi_s_lt : isiE S (.str z) ["list", "tuple"] = some false := (rfl)
theorem isi_n_int : isiE S .non ["int"] = some false := (rfl)
theorem isi_n_bool : isiE S .non ["bool"] = some false := (rfl)
theorem isi_n_str : isiE S .non ["str"] = some false := (rfl)
theorem isi_n_tup : isiE S .non ["tuple"] = some false := (rfl)
theorem isi_n_lst : isiE S .non ["list"] = some false := (rfl)
theorem isi_n_lt : isiE S .non ["list", "tuple"] = some false := (rfl)
end
end GW
local macro_rules
  | `(tactic| simp! [$[$ls],*]) => `(tactic| try simp only [GW.W, GW.WF, GW.W_ok, GW.W_exc, GW.WF_nx, GW.WF_rt, GW.WF_ex, GW.W_cst, GW.W_var, GW.W_glo, GW.W_bin, GW.W_neg, GW.W_not, GW.W_and, GW.W_or, GW.W_cmp, GW.W_chn, GW.W_ife, GW.W_isi, GW.W_idx, GW.W_slc, GW.W_slcR, GW.W_newR, GW.W_tpd, GW.W_lsd, GW.W_dcd, GW.W_blt, GW.W_call, GW.W_callD, GW.W_mth, GW.W_lc, GW.Ws_n, GW.Ws_c, GW.Wp_n, GW.intQ_i, GW.Wp_y, GW.Wc_n, GW.Wc_c, GW.Wi_val, GW.Wi_rng1, GW.Wi_rng2, GW.Wi_enm, GW.Wi_zip, GW.Wi_rev, GW.F_set, GW.F_tset, GW.F_par, GW.F_sset, GW.F_exp, GW.F_ret, GW.F_retN, GW.F_pas, GW.F_ife, GW.F_for, GW.F_rai, GW.F_tri, GW.S_n, GW.S_c, GW.H_n, GW.H_some, GW.H_none, GW.getS_s, GW.getS_0, GW.W_optB, GW.W_truB, GW.W_mkT, GW.W_mkLf, GW.W_mkLt, GW.W_add, GW.W_sub, GW.W_mul, GW.W_div, GW.W_mod, GW.W_addL, GW.W_addT, GW.W_lenT, GW.W_lenL, GW.W_lenC, GW.W_abs, GW.W_intB, GW.W_intI, GW.W_tupleL, GW.W_tupleT, GW.W_listL, GW.W_listT, GW.W_listRL, GW.W_listRT, GW.W_neg', GW.W_max2, GW.W_min2, GW.W_eqI, GW.W_neI, GW.W_ltI, GW.W_leI, GW.W_gtI, GW.W_geI, GW.W_idxT0, GW.W_idxT1, GW.W_idxT2, GW.items_t, GW.items_l, GW.W_enmT, GW.W_enmL, GW.W_zipTT, GW.W_zipLL, GW.ex_some, GW.isi_t_int, GW.isi_t_bool, GW.isi_t_str, GW.isi_t_tup, GW.isi_t_lst, GW.isi_t_lt, GW.isi_l_int, GW.isi_l_bool, GW.isi_l_str, GW.isi_l_tup, GW.isi_l_lst, GW.isi_l_lt, GW.isi_i_int, GW.isi_i_bool, GW.isi_i_str, GW.isi_i_tup, GW.isi_i_lst, GW.isi_i_lt, GW.isi_b_int, GW.isi_b_bool, GW.isi_b_str, GW.isi_b_tup, GW.isi_b_lst, GW.isi_b_lt, GW.isi_s_int, GW.isi_s_bool, GW.isi_s_str, GW.isi_s_tup, GW.isi_s_lst, GW.isi_s_lt, GW.isi_n_int, GW.isi_n_bool, GW.isi_n_str, GW.isi_n_tup, GW.isi_n_lst, GW.isi_n_lt, GW.om_call, GW.om_fu, GW.om_nf, GW.om_nc, GW.om_sub, GW.start0, List.set_cons_zero, List.set_cons_succ, List.map_cons, List.map_nil, List.length_cons, List.length_nil, List.replicate, List.cons_append, List.nil_append, Nat.reduceAdd, Nat.reduceSub, Nat.reduceLeDiff, true_and, and_true, Bool.not_true, Bool.not_false, Bool.false_eq_true, if_true, if_false, ite_true, ite_false, decide_true, decide_false, $[$ls],*])
namespace GW
open PySem
end GW
set_option exponentiation.threshold 20000
/-! Core 36: contracts from a depth on; stores that go on; things, as they are told and shown. -/
namespace GW
open PySem
abbrev Ct := (List Val → Store → Res Val) → Prop
def At (P : Pg) (fu d i : Nat) (C : Ct) : Prop := ∀ n, d ≤ n → C (callN P fu n i)
theorem At.mk {P : Pg} {fu d i : Nat} {df : Df} {C : Ct} (h : P.defs[i]? = some df) (hb : ∀ n, d ≤ n → C (fun vs S => runD (om P fu n) df vs S)) : At P fu (d + 1) i C := fun n hn => by
  obtain ⟨m, rfl⟩ : ∃ m, n = m + 1 := ⟨n - 1, by omega⟩
  have e : callN P fu (m + 1) i = fun vs S => runD (om P fu m) df vs S := by funext vs S; exact call_eq h vs S
  rw [e]
  exact hb m (by omega)
theorem At.up {P : Pg} {fu d e i : Nat} {C : Ct} (h : At P fu d i C) (hd : d ≤ e) : At P fu e i C := fun n hn => h n (Nat.le_trans hd hn)
/-! stores -/
structure Dr (l : Nat) (S S' : Store) : Prop where
  pu : Purse S' l
  kp : ∀ (m : Nat) o, m ≠ l → S[m]? = some o → S'[m]? = some o
theorem Dr.refl {S : Store} {l : Nat} (h : Purse S l) : Dr l S S := ⟨h, fun _ _ _ e => e⟩
theorem Dr.trans {S S1 S2 : Store} {l : Nat} (x : Dr l S S1) (y : Dr l S1 S2) : Dr l S S2 := ⟨y.pu, fun m o h e => y.kp m o h (x.kp m o h e)⟩
theorem Drawn.dr {S S' : Store} {l : Nat} (h : Drawn S l S') : Dr l S S' := ⟨h.pu, fun m o hm e => by rw [h.at (Ne.symm hm)]; exact e⟩
theorem Purse.app {S : Store} {l : Nat} (h : Purse S l) (T : Store) : Purse (S ++ T) l := by
  have hl := h.lt
  obtain ⟨a, b, c, e, h0, h1⟩ := h
  exact ⟨a, b, c, by rw [List.getElem?_append_left hl]; exact e, h0, h1⟩
theorem at_app {S : Store} {m : Nat} {o : Ob} (h : S[m]? = some o) (T : Store) : (S ++ T)[m]? = some o := by
  rw [List.getElem?_append_left (List.getElem?_eq_some_iff.mp h).1]; exact h
theorem Dr.app {S : Store} {l : Nat} (h : Purse S l) (T : Store) : Dr l S (S ++ T) := ⟨h.app T, fun _ _ _ e => at_app e T⟩
theorem at_new (S : Store) (o : Ob) (T : Store) : (S ++ o :: T)[S.length]? = some o := by
  rw [List.getElem?_append_right (Nat.le_refl _), Nat.sub_self]; rfl
theorem Purse.ne {S : Store} {l m : Nat} (h : Purse S l) {o : Ob} (e : S[m]? = some o) (ho : ∀ a b c : Int, o ≠ .lst [.int a, .int b, .int c]) : m ≠ l := fun z => by
  obtain ⟨a, b, c, e', _⟩ := h
  rw [z, e'] at e
  exact ho a b c (Option.some.inj e).symm
/-! contracts -/
def cCell : Ct := fun f => ∀ (S : Store) (ns : List Int) (k : Nat), ∃ c : Int, f [.scr (ns.map Val.int), .int k] S = .ok (.int c) S
def cPurse : Ct := fun f => ∀ (S : Store) (c : Int) (Q : Val → Store → Prop) (X : Xt), (∀ (l : Nat) (T : Store), Purse T l → (∀ (m : Nat) o, S[m]? = some o → m ≠ l ∧ T[m]? = some o) → Q (.ref l) T) → W (f [.int c] S) Q X
def cTake : Ct := fun f => ∀ (S : Store) (l : Nat) (many : Int) (Q : Val → Store → Prop) (X : Xt), Purse S l → 0 < many → many ≤ 2 ^ 60 → (∀ (d : Nat) (T : Store), (d : Int) < many → Dr l S T → Q (.int d) T) → W (f [.ref l, .int many] S) Q X
def cNumber : Ct := fun f => ∀ (S : Store) (l : Nat) (Q : Val → Store → Prop) (X : Xt), Purse S l → (∀ (d : Int) (T : Store), d.natAbs < 2 ^ 100 → Dr l S T → Q (.int d) T) → W (f [.ref l] S) Q X
def cGcd (fu : Nat) : Ct := fun f => ∀ (S : Store) (a b : Int), b.natAbs < fu → f [.int a, .int b] S = .ok (.int (Int.gcd a b)) S
def cLow : Ct := fun f => ∀ (S : Store) (t b : Int), b ≠ 0 → b.natAbs < 2 ^ 9000 → f [.int t, .int b] S = .ok (lowV t b) S
section
variable {P : Pg} {fu d : Nat}
theorem cell_at {i : Nat} (h : P.defs[i]? = some ⟨2, 2, bCell⟩) : At P fu (d + 1) i cCell := .mk h fun n _ S ns k => cell_ok _ ns k
theorem purse_at {i : Nat} (h : P.defs[i]? = some ⟨1, 1, bPurse⟩) : At P fu (d + 1) i cPurse := .mk h fun n _ S c Q X hq => by
  obtain ⟨a, b, b0, b1, e0⟩ := purse_ok (om P fu n) (S := S) c
  refine W.of e0 (hq _ _ (purse_is b0 b1) fun m o e => ?_)
  have := (List.getElem?_eq_some_iff.mp e).1
  exact ⟨by omega, at_app e _⟩
theorem take_at {i : Nat} (h : P.defs[i]? = some ⟨2, 5, bTake⟩) : At P fu (d + 1) i cTake := .mk h fun n _ S l many Q X p h0 h1 hq => by
  obtain ⟨d, S', e, d0, d1, D⟩ := take_ok (om P fu n) p h0 h1
  obtain ⟨k, rfl⟩ : ∃ k : Nat, d = k := ⟨d.toNat, by omega⟩
  exact W.of e (hq k S' d1 D.dr)
theorem number_at {i tk : Nat} (h : P.defs[i]? = some ⟨1, 5, bNumber tk⟩) (ht : P.defs[tk]? = some ⟨2, 5, bTake⟩) (hd : 1 ≤ d) : At P fu (d + 1) i cNumber := .mk h fun n hn S l Q X p hq => by
  obtain ⟨m, rfl⟩ : ∃ m, n = m + 1 := ⟨n - 1, by omega⟩
  obtain ⟨x, S', e, hx, D⟩ := num_ok (O := om P fu (m + 1)) (takeOk ht) p
  exact W.of e (hq x S' hx D.dr)
theorem part_at {i : Nat} (h : P.defs[i]? = some ⟨2, 2, bPart⟩) : At P fu (d + 1) i (cGcd fu) := .mk h fun n _ S a b hb => part_ok hb
theorem common_at {i : Nat} (h : P.defs[i]? = some ⟨2, 2, bCommon⟩) : At P fu (d + 1) i (cGcd fu) := .mk h fun n _ S a b hb => common_ok hb
theorem low_at {i c : Nat} (h : P.defs[i]? = some ⟨2, 3, bLow c⟩) (hf : 2 ^ 9000 ≤ fu) (hc : At P fu d c (cGcd fu)) : At P fu (d + 1) i cLow := .mk h fun n hn S t b h0 hb => low_ok h0 hb (hc n hn S t b (by omega))
end
/-! things: what may be handed to any function that looks at it -/
mutual
def Okv (S : Store) : Val → Prop
  | .non => True
  | .bl _ => True
  | .int i => i.natAbs < 2 ^ 9000
  | .str z => z.length ≤ 1000
  | .tup xs => Okvs S xs
  | .lst xs => Okvs S xs
  | .ref m => ∃ o, S[m]? = some o
  | _ => False
def Okvs (S : Store) : List Val → Prop
  | [] => True
  | x :: xs => Okv S x ∧ Okvs S xs
end
theorem okvs_iff {S : Store} : ∀ {xs : List Val}, Okvs S xs ↔ ∀ x ∈ xs, Okv S x
  | [] => by simp [Okvs]
  | x :: xs => by simp [Okvs, okvs_iff (xs := xs)]
theorem Okv.ty {S : Store} {v : Val} (h : Okv S v) : (tyN S v).isSome = true := by
  cases v with
  | ref m =>
    obtain ⟨o, e⟩ := h
    unfold tyN
    dsimp only
    rw [e]
    cases o <;> rfl
  | scr xs => exact h.elim
  | fn f => exact h.elim
  | exc c fs => exact h.elim
  | _ => rfl
mutual
theorem Okv.mono {S T : Store} (hs : ∀ (m : Nat) o, S[m]? = some o → ∃ o', T[m]? = some o') : ∀ {v : Val}, Okv S v → Okv T v
  | .non, h => h
  | .bl _, h => h
  | .int _, h => h
  | .str _, h => h
  | .tup xs, h => Okvs.mono hs (xs := xs) h
  | .lst xs, h => Okvs.mono hs (xs := xs) h
  | .ref m, h => let ⟨o, e⟩ := h; hs m o e
  | .scr _, h => h
  | .fn _, h => h
  | .exc _ _, h => h
theorem Okvs.mono {S T : Store} (hs : ∀ (m : Nat) o, S[m]? = some o → ∃ o', T[m]? = some o') : ∀ {xs : List Val}, Okvs S xs → Okvs T xs
  | [], _ => trivial
  | x :: xs, h => ⟨Okv.mono hs h.1, Okvs.mono hs h.2⟩
end
theorem Okv.dr {S T : Store} {l : Nat} {v : Val} (h : Okv S v) (p : Dr l S T) : Okv T v := h.mono fun m o e => by
  by_cases hm : m = l
  · subst hm
    obtain ⟨a, b, c, e', _⟩ := p.pu
    exact ⟨_, e'⟩
  · exact ⟨o, p.kp m o hm e⟩
theorem Okv.app {S : Store} {v : Val} (h : Okv S v) (T : Store) : Okv (S ++ T) v := h.mono fun m o e => ⟨o, at_app e T⟩
/-! what is shown -/
def Sh (S : Store) (k w : Nat) (v : Val) : Prop := ∃ d, toD S k v = some d ∧ d.showable = true ∧ d.leavesShort 1921 = true ∧ d.bulk ≤ w ∧ d.depth ≤ k
def Shs (S : Store) (k w : Nat) (xs : List Val) : Prop := ∃ ds, allD (toD S k) xs = some ds ∧ PyData.showableAll ds = true ∧ PyData.leavesShortAll 1921 ds = true ∧ PyData.bulkAll ds ≤ w ∧ PyData.depthAll ds ≤ k
theorem Sh.le {S : Store} {k w w' : Nat} {v : Val} (h : Sh S k w v) (hw : w ≤ w') : Sh S k w' v := let ⟨d, a, b, c, e, f⟩ := h; ⟨d, a, b, c, by omega, f⟩
theorem sh_int {S : Store} {k : Nat} {i : Int} (h : i.natAbs < 2 ^ 1900) : Sh S (k + 1) 0 (.int i) := by
  have hl : i.natAbs.log2 < 1920 := by
    by_cases z : i.natAbs = 0
    · rw [z]; decide
    · exact Nat.lt_trans ((Nat.log2_lt z).mpr h) (by decide)
  refine ⟨.int i, rfl, by unfold PyData.showable; exact decide_eq_true hl, ?_, Nat.le_refl _, by simp [PyData.depth]⟩
  unfold PyData.leavesShort
  refine decide_eq_true ?_
  have := PyProof.Rows.int_text_len_1921 hl
  unfold PyData.shown
  exact this
theorem sh_bl {S : Store} {k : Nat} (b : Bool) : Sh S (k + 1) 0 (.bl b) := ⟨.bool b, rfl, rfl, rfl, Nat.le_refl _, by simp [PyData.depth]⟩
theorem sh_non {S : Store} {k : Nat} : Sh S (k + 1) 0 .non := ⟨.none, rfl, rfl, rfl, Nat.le_refl _, by simp [PyData.depth]⟩
theorem shs_nil {S : Store} {k : Nat} : Shs S k 0 [] := ⟨[], rfl, rfl, rfl, by simp [PyData.bulkAll], by simp [PyData.depthAll]⟩
theorem shs_cons {S : Store} {k w w' : Nat} {x : Val} {xs : List Val} (h : Sh S k w x) (h' : Shs S k w' xs) : Shs S k (w + 1 + w') (x :: xs) := by
  obtain ⟨d, a1, a2, a3, a4, a5⟩ := h
  obtain ⟨ds, b1, b2, b3, b4, b5⟩ := h'
  refine ⟨d :: ds, ?_, ?_, ?_, ?_, ?_⟩
  · unfold allD; rw [a1, b1]
  · simp only [PyData.showableAll, a2, b2, Bool.and_true]
  · simp only [PyData.leavesShortAll, a3, b3, Bool.and_true]
  · simp only [PyData.bulkAll]; omega
  · simp only [PyData.depthAll]; omega
theorem sh_tup {S : Store} {k w : Nat} {xs : List Val} (h : Shs S k w xs) : Sh S (k + 1) w (.tup xs) := by
  obtain ⟨ds, b1, b2, b3, b4, b5⟩ := h
  refine ⟨.tuple ds, ?_, ?_, ?_, ?_, ?_⟩
  · show (allD (toD S k) xs).map PyData.tuple = _
    rw [b1]; rfl
  · simpa only [PyData.showable] using b2
  · simpa only [PyData.leavesShort] using b3
  · simpa only [PyData.bulk] using b4
  · simp only [PyData.depth]; omega
theorem sh_lst {S : Store} {k w : Nat} {xs : List Val} (h : Shs S k w xs) : Sh S (k + 1) w (.lst xs) := by
  obtain ⟨ds, b1, b2, b3, b4, b5⟩ := h
  refine ⟨.list ds, ?_, ?_, ?_, ?_, ?_⟩
  · show (allD (toD S k) xs).map PyData.list = _
    rw [b1]; rfl
  · simpa only [PyData.showable] using b2
  · simpa only [PyData.leavesShort] using b3
  · simpa only [PyData.bulk] using b4
  · simp only [PyData.depth]; omega
theorem sh_ref {S : Store} {k w m : Nat} {xs : List Val} (e : S[m]? = some (.lst xs)) (h : Shs S k w xs) : Sh S (k + 1) w (.ref m) := by
  obtain ⟨d, a, b⟩ := sh_lst h
  refine ⟨d, ?_, b⟩
  rw [← a]
  unfold toD
  dsimp only
  rw [e]
theorem sh_dct {S : Store} {k m : Nat} (e : S[m]? = some (.dct [] [])) : Sh S (k + 1) 0 (.ref m) := by
  refine ⟨.dict [], ?_, by simp [PyData.showable, PyData.showableKv], by simp [PyData.leavesShort, PyData.leavesShortKv], by simp [PyData.bulk, PyData.bulkKv], by simp [PyData.depth, PyData.depthKv]⟩
  unfold toD
  dsimp only
  rw [e]
  rfl
theorem repr_of {S : Store} {v : Val} {w : Nat} (h : Sh S 12 w v) (hw : w ≤ 8000) : ∃ z, bltV .repr [v] S = .ok (.str z) S := by
  obtain ⟨d, a1, a2, a3, a4, a5⟩ := h
  refine ⟨d.shown, ?_⟩
  show reprV v S = _
  unfold reprV
  rw [a1]
  dsimp only
  have := PyData.shown_le_bulk 1921 (by decide) d a3
  have e : sizeLine = 16777216 := by decide
  exact if_pos ⟨.inl a2, by omega, by omega⟩
theorem str_eq (z : Str) (S : Store) : cmpE .eq (.str z) (.str z) S = some true := by
  show eqV S (.str z) (.str z) = _
  simp [eqV, scalE]
theorem str_ne (z : Str) (S : Store) : cmpE .ne (.str z) (.str z) S = some false := by
  show (eqV S (.str z) (.str z)).map not = _
  simp [eqV, scalE]
end GW
set_option exponentiation.threshold 20000
/-! Core 37: ratios. -/
namespace GW
open PySem
def isRat : Val → Bool
  | .tup [.int a, .int b] => decide (0 < b) && decide (Int.gcd a b = 1)
  | _ => false
def cNum : Ct := fun f => ∀ (S : Store) (v : Val), Okv S v → f [v] S = .ok (.bl (numb v)) S
def cIsRat : Ct := fun f => ∀ (S : Store) (v : Val), Okv S v → f [v] S = .ok (.bl (isRat v)) S
def cNeed (t : Val → Bool) (c : Nat) : Ct := fun f => ∀ (S : Store) (v : Val), Okv S v → f [v] S = if t v = true then .ok .non S else .exc c [v] S
theorem W.eq {r : Res Val} {v : Val} {S : Store} (h : W r (fun a T => a = v ∧ T = S) nX) : r = .ok v S := by
  obtain ⟨a, T, e, rfl, rfl⟩ := h.get
  exact e
section
variable {P : Pg} {fu d : Nat}
theorem isnum_at {i : Nat} (h : P.defs[i]? = some ⟨1, 1, bIsNum⟩) : At P fu (d + 1) i cNum := .mk h fun n _ S v hv => isnum_ok hv.ty
def bIsRat (nu pa : Nat) : Cs := (.cons (.ife (.or (.not (.isi (.var 0) ["tuple"])) (.or (.cmp .ne (.blt .len (.cons (.var 0) .nil)) (.cst (.int 2))) (.or (.not (.call nu (.cons (.idx (.var 0) (.cst (.int 0))) .nil))) (.not (.call nu (.cons (.idx (.var 0) (.cst (.int 1))) .nil)))))) (.cons (.ret (.cst (.bl false)))
    .nil) .nil)
  (.cons (.ret (.and (.cmp .gt (.idx (.var 0) (.cst (.int 1))) (.cst (.int 0))) (.cmp .eq (.call pa (.cons (.idx (.var 0) (.cst (.int 0))) (.cons (.idx (.var 0) (.cst (.int 1))) .nil))) (.cst (.int 1)))))
  .nil))
theorem isi_tuple {S : Store} {v : Val} (h : Okv S v) : (∃ xs, v = .tup xs) ∨ isiE S v ["tuple"] = some false ∧ ∀ xs, v ≠ .tup xs := by
  cases v with
  | tup xs => exact .inl ⟨xs, rfl⟩
  | ref m =>
    obtain ⟨o, e⟩ := h
    refine .inr ⟨?_, fun _ h => by cases h⟩
    unfold isiE tyN
    dsimp only
    rw [e]
    cases o <;> rfl
  | scr xs => exact h.elim
  | fn f => exact h.elim
  | exc c fs => exact h.elim
  | _ => exact .inr ⟨rfl, fun _ h => by cases h⟩
theorem numb_int {v : Val} (h : numb v = true) : ∃ i, v = .int i := by
  cases v <;> first | exact ⟨_, rfl⟩ | cases h
theorem israt_at {i nu pa : Nat} (h : P.defs[i]? = some ⟨1, 1, bIsRat nu pa⟩) (hn : At P fu d nu cNum) (hp : At P fu d pa (cGcd fu)) (hf : 2 ^ 9000 ≤ fu) : At P fu (d + 1) i cIsRat := .mk h fun n hd S v hv => by
  have hn := hn n hd
  have hp := hp n hd
  refine W.eq ?_
  rw [W_run rfl]
  rcases isi_tuple hv with ⟨xs, rfl⟩ | ⟨e, hne⟩
  · match xs, hv with
    | [], _ => simp! [bIsRat]; simp [isRat]
    | [a], _ => simp! [bIsRat]; simp [isRat]
    | a :: b :: c :: r, _ => simp! [bIsRat]; simp [isRat]; rw [if_neg (by omega)]; intro h; omega
    | [a, b], hv =>
      obtain ⟨ha, hb, _⟩ := hv
      cases na : numb a with
      | false => simp! [bIsRat, hn S a ha, hn S b hb, na]; cases a <;> simp_all [isRat, numb]
      | true =>
        cases nb : numb b with
        | false => simp! [bIsRat, hn S a ha, hn S b hb, na, nb]; cases b <;> cases a <;> simp_all [isRat, numb]
        | true =>
          obtain ⟨x, rfl⟩ := numb_int na
          obtain ⟨y, rfl⟩ := numb_int nb
          simp! [bIsRat, hn S _ ha, hn S _ hb, na, nb, hp S x y (Nat.lt_of_lt_of_le hb hf)]
          by_cases hy : 0 < y <;> simp [hy, isRat]; omega
  · simp! [bIsRat, e]
    cases v <;> first | rfl | exact absurd rfl (hne _)
def bNeed (c isr : Nat) : Cs := (.cons (.ife (.not (.call isr (.cons (.var 0) .nil))) (.cons (.rai c (.cons (.var 0) .nil))
    .nil) .nil)
  .nil)
theorem need_at {i c isr : Nat} {t : Val → Bool} (h : P.defs[i]? = some ⟨1, 1, bNeed c isr⟩) (hi : At P fu d isr (fun f => ∀ (S : Store) (v : Val), Okv S v → f [v] S = .ok (.bl (t v)) S)) : At P fu (d + 1) i (cNeed t c) := .mk h fun n hd S v hv => by
  have hi := hi n hd S v hv
  cases ht : t v <;> simp [runD, bNeed, start0, hi, ht]
end
end GW
set_option exponentiation.threshold 20000
/-! Core 38: plain data and when it is equal; comprehensions and loops, walked forward. -/
namespace GW
open PySem
structure Dat (α : Type) [DecidableEq α] where
  dep : Nat
  v : α → Val
  d : α → PyData
  td : ∀ S n a, dep < n → toD S n (v a) = some (d a)
  cl : ∀ a, (d a).canLay0 = true
  dp : ∀ a, (d a).depth ≤ dep
  eq : ∀ a b, PyData.eqv (d a) (d b) = decide (a = b)
  sm : ∀ S n a b, dep < n → samE S n (v a) (v b) = decide (a = b)
section
variable {α : Type} [DecidableEq α] (D : Dat α)
theorem Dat.cls : ∀ xs : List α, PyData.canLayAll0 (xs.map D.d) = true
  | [] => rfl
  | x :: xs => by simp only [List.map_cons, PyData.canLayAll0, D.cl, Dat.cls xs, Bool.and_true]
theorem Dat.shaped (h : D.dep ≤ 11) (a : α) : SeqAt.shaped (D.d a) = true := by
  unfold SeqAt.shaped
  have := D.dp a
  rw [D.cl, Bool.true_and]
  exact decide_eq_true (by omega)
end
/-! comprehensions, loops -/
section
variable {cs : List Val} {lists : List (List Val)} {i : Nat} {test : Enm → Store → Res Bool} {elt : Enm → Store → Res Val} {en : Enm} {S : Store} {Q : List Val → Store → Prop} {X : Xt}
end
section
variable {cs : List Val} {lists : List (List Val)} {t : Tg} {b : Enm → Store → Fl} {N : Enm → Store → Prop} {R : Val → Store → Prop} {Y : Nat → List Val → Enm → Store → Prop}
theorem for_aux (I : Nat → Enm → Store → Prop) (hl : ∀ k en S, I k en S → live S cs lists) : ∀ (its : List Val) (k : Nat), (∀ j v en S, its[j]? = some v → I (k + j) en S → ∃ en1, putT t v en = some en1 ∧ WF (b en1 S) (fun en' S' => I (k + j + 1) en' S') R Y) → ∀ en S, I k en S → (∀ en' S', I (k + its.length) en' S' → N en' S') → WF (forF cs lists t b its en S) N R Y
  | [], k, _, en, S, h, hN => by
    unfold forF
    rw [if_pos (hl _ _ _ h)]
    exact hN en S h
  | v :: r, k, hs, en, S, h, hN => by
    obtain ⟨en1, e1, h2⟩ := hs 0 v en S rfl h
    have up : ∀ j, k + 1 + j = k + (j + 1) := fun j => by omega
    unfold forF
    rw [if_pos (hl _ _ _ h), e1]
    dsimp only
    rw [WF_then]
    refine h2.mono (fun en2 S2 h3 => ?_) (fun _ _ h => h) (fun _ _ _ _ h => h)
    exact for_aux I hl r (k + 1) (fun j u en S e p => by rw [up] at p ⊢; exact hs (j + 1) u en S e p) en2 S2 h3 (fun en' S' p => hN en' S' (by rw [List.length_cons, ← up]; exact p))
theorem WF_for (I : Nat → Enm → Store → Prop) {its : List Val} {en : Enm} {S : Store} (h0 : I 0 en S) (hl : ∀ k en S, I k en S → live S cs lists) (hs : ∀ k v en S, its[k]? = some v → I k en S → ∃ en1, putT t v en = some en1 ∧ WF (b en1 S) (fun en' S' => I (k + 1) en' S') R Y) (hN : ∀ en S, I its.length en S → N en S) : WF (forF cs lists t b its en S) N R Y :=
  for_aux I hl its 0 (fun j v en S e p => by rw [Nat.zero_add] at p ⊢; exact hs j v en S e p) en S h0 (fun en' S' p => hN en' S' (by simpa using p))
end
end GW
set_option exponentiation.threshold 20000
/-! Core 39: rows. -/
namespace GW
open PySem
def gcdL (ns : List Int) (b : Int) : Int := ns.foldl (fun g x => (Int.gcd g x : Int)) b
theorem gcdL_nn : ∀ (ns : List Int) (b : Int), 0 ≤ b → 0 ≤ gcdL ns b
  | [], b, h => h
  | x :: xs, b, _ => gcdL_nn xs _ (Int.natCast_nonneg _)
theorem gcdL_dvd : ∀ (ns : List Int) (b : Int), gcdL ns b ∣ b ∧ ∀ x ∈ ns, gcdL ns b ∣ x
  | [], b => ⟨Int.dvd_refl _, fun x hx => by cases hx⟩
  | y :: ns, b => by
    obtain ⟨h1, h2⟩ := gcdL_dvd ns (Int.gcd b y : Int)
    refine ⟨Int.dvd_trans h1 (Int.gcd_dvd_left b y), fun x hx => ?_⟩
    rcases List.mem_cons.mp hx with rfl | hx
    · exact Int.dvd_trans h1 (Int.gcd_dvd_right b x)
    · exact h2 x hx
theorem dvd_gcdL : ∀ (ns : List Int) (b d : Int), d ∣ b → (∀ x ∈ ns, d ∣ x) → d ∣ gcdL ns b
  | [], b, d, h, _ => h
  | y :: ns, b, d, h, hs => dvd_gcdL ns _ d (Int.dvd_coe_gcd h (hs y (List.mem_cons_self ..))) fun x hx => hs x (List.mem_cons_of_mem _ hx)
theorem gcdL_pos {ns : List Int} {b : Int} (h : 0 < b) : 0 < gcdL ns b := by
  have h1 := gcdL_nn ns b (Int.le_of_lt h)
  have h2 := (gcdL_dvd ns b).1
  rcases Int.lt_or_eq_of_le h1 with h3 | h3
  · exact h3
  · rw [← h3] at h2
    have := Int.zero_dvd.mp h2
    omega
theorem gcdL_le {ns : List Int} {b : Int} (h : 0 < b) : gcdL ns b ≤ b := Int.le_of_dvd h (gcdL_dvd ns b).1
theorem gcdL_mul : ∀ (ns : List Int) (b g : Int), 0 ≤ g → 0 ≤ b → gcdL (ns.map (· * g)) (b * g) = gcdL ns b * g
  | [], b, g, _, _ => rfl
  | y :: ns, b, g, hg, hb => by
    show gcdL (ns.map (· * g)) (Int.gcd (b * g) (y * g) : Int) = gcdL ns (Int.gcd b y : Int) * g
    rw [← gcdL_mul ns _ g hg (Int.natCast_nonneg _), Int.gcd_mul_right]
    congr 1
    rw [Int.natCast_mul]
    congr 1
    omega
def tI (ns : List Int) : Val := .tup (ns.map .int)
def lI (ns : List Int) : Val := .lst (ns.map .int)
def rowV (ns : List Int) (b : Int) : Val := .tup [.tup (ns.map .int), .int b]
def shortV (ns : List Int) (b : Int) : Val := rowV (ns.map fun x => x.fdiv (gcdL ns b)) (b.fdiv (gcdL ns b))
structure IsRow (ns : List Int) (b : Int) : Prop where
  lo : 1 ≤ ns.length
  hi : ns.length ≤ 12
  pos : 0 < b
  low : gcdL ns b = 1
structure Bdd (k : Nat) (ns : List Int) (b : Int) : Prop where
  ns : ∀ x ∈ ns, x.natAbs < 2 ^ k
  b : b.natAbs < 2 ^ k
theorem pow_up {x k m : Nat} (h : x < 2 ^ k) (hm : k ≤ m) : x < 2 ^ m := Nat.lt_of_lt_of_le h (Nat.pow_le_pow_right (by decide) hm)
theorem Bdd.up {k m : Nat} {ns : List Int} {b : Int} (h : Bdd k ns b) (hm : k ≤ m) : Bdd m ns b := ⟨fun x hx => pow_up (h.ns x hx) hm, pow_up h.b hm⟩
theorem short_parts (ns : List Int) {b : Int} (h : 0 < b) : ∃ ms c, shortV ns b = rowV ms c ∧ ms.map (· * gcdL ns b) = ns ∧ c * gcdL ns b = b ∧ 0 < c ∧ gcdL ms c = 1 ∧ ms.length = ns.length ∧ c ≤ b ∧ ∀ k, (∀ x ∈ ns, x.natAbs < 2 ^ k) → ∀ x ∈ ms, x.natAbs < 2 ^ k := by
  have g0 := gcdL_pos (ns := ns) h
  obtain ⟨hb, hn⟩ := gcdL_dvd ns b
  generalize hg : gcdL ns b = g at *
  have e1 : (ns.map fun x => x.fdiv g).map (· * g) = ns := by
    rw [List.map_map]
    conv => rhs; rw [← List.map_id ns]
    refine List.map_congr_left fun x hx => ?_
    show x.fdiv g * g = x
    exact Int.fdiv_mul_cancel (hn x hx)
  have e2 : b.fdiv g * g = b := Int.fdiv_mul_cancel hb
  have c0 : 0 < b.fdiv g := by
    rcases Int.lt_or_le 0 (b.fdiv g) with h1 | h1
    · exact h1
    · have := Int.mul_nonpos_of_nonpos_of_nonneg h1 (Int.le_of_lt g0)
      omega
  refine ⟨_, _, by unfold shortV; rw [hg], e1, e2, c0, ?_, by simp, ?_, ?_⟩
  · have h2 := gcdL_mul (ns.map fun x => x.fdiv g) (b.fdiv g) g (Int.le_of_lt g0) (Int.le_of_lt c0)
    rw [e1, e2, hg] at h2
    have h3 : 1 * g = gcdL (ns.map fun x => x.fdiv g) (b.fdiv g) * g := by rw [Int.one_mul]; exact h2
    exact (Int.eq_of_mul_eq_mul_right (by omega) h3).symm
  · have := Int.mul_le_mul_of_nonneg_left (show 1 ≤ g by omega) (Int.le_of_lt c0)
    omega
  · intro k hk x hx
    obtain ⟨y, hy, rfl⟩ := List.mem_map.mp hx
    refine Nat.lt_of_le_of_lt ?_ (hk y hy)
    obtain ⟨z, rfl⟩ := hn y hy
    rw [Int.mul_comm g z, Int.mul_fdiv_cancel _ (by omega), Int.natAbs_mul]
    exact Nat.le_mul_of_pos_right _ (by omega)
/-! which things are rows -/
def intOf : Val → Int
  | .int i => i
  | _ => 0
def isNums : Val → Bool
  | .tup xs => decide (1 ≤ xs.length) && decide (xs.length ≤ 12) && xs.all numb
  | _ => false
def isRow : Val → Bool
  | .tup [.tup xs, .int b] => isNums (.tup xs) && decide (0 < b) && decide (gcdL (xs.map intOf) b = 1)
  | _ => false
theorem ints_of {xs : List Val} (h : xs.all numb = true) : xs = (xs.map intOf).map .int := by
  induction xs with
  | nil => rfl
  | cons x xs ih =>
    rw [List.all_cons, Bool.and_eq_true] at h
    obtain ⟨i, rfl⟩ := numb_int h.1
    simp only [List.map_cons]
    rw [← ih h.2]
    rfl
theorem intOf_map (ns : List Int) : (ns.map Val.int).map intOf = ns := by
  rw [List.map_map]
  conv => rhs; rw [← List.map_id ns]
  exact List.map_congr_left fun _ _ => rfl
theorem all_numb (ns : List Int) : (ns.map Val.int).all numb = true := by
  rw [List.all_map]
  exact List.all_eq_true.mpr fun _ _ => rfl
theorem isRow_iff {v : Val} : isRow v = true ↔ ∃ ns b, v = rowV ns b ∧ IsRow ns b := by
  constructor
  · intro h
    unfold isRow at h
    split at h
    · rename_i xs b
      simp only [isNums, Bool.and_eq_true, decide_eq_true_eq] at h
      obtain ⟨⟨⟨⟨h1, h2⟩, h3⟩, h4⟩, h5⟩ := h
      refine ⟨xs.map intOf, b, ?_, ⟨by simpa using h1, by simpa using h2, h4, h5⟩⟩
      unfold rowV
      rw [← ints_of h3]
    · cases h
  · rintro ⟨ns, b, rfl, h⟩
    have h1 := h.lo
    have h2 := h.hi
    have h3 := h.pos
    have h4 := h.low
    simp only [rowV, isRow, isNums, intOf_map, all_numb, List.length_map, Bool.and_eq_true, decide_eq_true_eq]
    exact ⟨⟨⟨⟨h1, h2⟩, trivial⟩, h3⟩, h4⟩
theorem IsRow.is {ns : List Int} {b : Int} (h : IsRow ns b) : isRow (rowV ns b) = true := isRow_iff.mpr ⟨ns, b, rfl, h⟩
theorem okv_row {S : Store} {ns : List Int} {b : Int} (h : Bdd 9000 ns b) : Okv S (rowV ns b) := by
  refine ⟨?_, h.b, trivial⟩
  refine okvs_iff.mpr fun x hx => ?_
  obtain ⟨y, hy, rfl⟩ := List.mem_map.mp hx
  exact h.ns y hy
-- np nn = 2 4
-- np nn = 2 4
-- np nn = 1 2
-- np nn = 1 1
-- np nn = 2 2
-- np nn = 2 5
-- np nn = 2 5
-- np nn = 2 4
-- np nn = 2 3
-- np nn = 2 4
/-! contracts -/
def Nums (v : Val) (ns : List Int) : Prop := v = .tup (ns.map .int) ∨ v = .lst (ns.map .int)
theorem Nums.items {v : Val} {ns : List Int} (h : Nums v ns) (S : Store) : items S v = some (ns.map .int) := by rcases h with rfl | rfl <;> rfl
theorem Nums.live {v : Val} {ns : List Int} (h : Nums v ns) (S : Store) (xs : List Val) : live S [v] [xs] := by rcases h with rfl | rfl; exact live_t _ _ _; exact live_l _ _ _
section
variable {P : Pg} {fu d : Nat}
end
end GW
set_option exponentiation.threshold 20000
/-! Core 40: rows, reckoned and refused. -/
namespace GW
open PySem
section
variable {cs : List Val} {lists : List (List Val)} {t : Tg} {test : Enm → Store → Res Bool} {elt : Enm → Store → Res Val} {en : Enm} {S : Store} {Q : List Val → Store → Prop} {X : Xt}
end
def dotI (ns ms : List Int) : Int := ((ns.zip ms).map fun p => p.1 * p.2).sum
structure cTwo (kr kf : Nat) (val : List Int → Int → List Int → Int → Val) (f : List Val → Store → Res Val) : Prop where
  bad1 : ∀ S u v, Okv S u → isRow u = false → f [u, v] S = .exc kr [u] S
  bad2 : ∀ S u v, Okv S u → Okv S v → isRow u = true → isRow v = false → f [u, v] S = .exc kr [v] S
  fit : ∀ S ns b ms c, IsRow ns b → IsRow ms c → Bdd 9000 ns b → Bdd 9000 ms c → ns.length ≠ ms.length → f [rowV ns b, rowV ms c] S = .exc kf [.tup [rowV ns b, rowV ms c]] S
  ok : ∀ S ns b ms c, IsRow ns b → IsRow ms c → Bdd 4000 ns b → Bdd 4000 ms c → ns.length = ms.length → f [rowV ns b, rowV ms c] S = .ok (val ns b ms c) S
theorem mulOk_p {i j : Int} {n m : Nat} (h : i.natAbs < 2 ^ n) (h' : j.natAbs < 2 ^ m) (hs : n + m ≤ 100000000) : mulOk i j = true := mulOk_b h h' hs
theorem mul_lt {x y : Int} {n m : Nat} (h : x.natAbs < 2 ^ n) (h' : y.natAbs < 2 ^ m) : (x * y).natAbs < 2 ^ (n + m) := by
  rw [Int.natAbs_mul, Nat.pow_add]
  exact Nat.mul_lt_mul'' h h'
theorem add_lt {x y : Int} {n : Nat} (h : x.natAbs < 2 ^ n) (h' : y.natAbs < 2 ^ n) : (x + y).natAbs < 2 ^ (n + 1) := by
  rw [Nat.pow_succ]; omega
theorem sub_lt {x y : Int} {n : Nat} (h : x.natAbs < 2 ^ n) (h' : y.natAbs < 2 ^ n) : (x - y).natAbs < 2 ^ (n + 1) := by
  rw [Nat.pow_succ]; omega
theorem mem_zip {ns ms : List Int} {p : Int × Int} (h : p ∈ ns.zip ms) : p.1 ∈ ns ∧ p.2 ∈ ms := ⟨(List.of_mem_zip h).1, (List.of_mem_zip h).2⟩
section
variable {P : Pg} {fu d : Nat}
theorem isNums_row {xs : List Val} (h : isNums (.tup xs) = true) : ∃ ns : List Int, xs = ns.map .int ∧ 1 ≤ ns.length ∧ ns.length ≤ 12 := by
  simp only [isNums, Bool.and_eq_true, decide_eq_true_eq] at h
  exact ⟨xs.map intOf, ints_of h.2, by simpa using h.1.1, by simpa using h.1.2⟩
theorem Bdd.ok {k : Nat} {ns : List Int} {b : Int} (h : Bdd k ns b) (hk : k ≤ 9000) (S : Store) : Okv S (rowV ns b) := okv_row (h.up hk)
end
end GW
set_option exponentiation.threshold 20000
/-! Core 41: rows, reckoned. -/
namespace GW
open PySem
section
variable {P : Pg} {fu d : Nat}
def timesI (ns : List Int) (x : Int) : List Int := ns.map fun n => n * x
structure cTimes (ka kr : Nat) (f : List Val → Store → Res Val) : Prop where
  bad1 : ∀ S u v, Okv S u → isRat u = false → f [u, v] S = .exc ka [u] S
  bad2 : ∀ S u v, Okv S u → Okv S v → isRat u = true → isRow v = false → f [u, v] S = .exc kr [v] S
  ok : ∀ S x y ns b, IsR x y → IsRow ns b → x.natAbs < 2 ^ 4000 → y.natAbs < 2 ^ 4000 → Bdd 4000 ns b → f [.tup [.int x, .int y], rowV ns b] S = .ok (shortV (timesI ns x) (b * y)) S
theorem IsR.is {x y : Int} (h : IsR x y) : isRat (.tup [.int x, .int y]) = true := by simp [isRat, h.pos, h.low]
end
end GW
set_option exponentiation.threshold 20000
/-! Core 42: numbers, ratios, rows drawn; things that are odd. -/
namespace GW
open PySem
-- np nn = 1 3
def L_l_great (c_l_take : Nat) : Cs := (.cons (.set 1 (.bin .add (.cst (.int 1)) (.call c_l_take (.cons (.var 0) (.cons (.cst (.int 3)) .nil)))))
  (.cons (.forr (.one 2) (.rng1 (.cst (.int 13))) (.cons (.set 1 (.bin .add (.bin .mul (.var 1) (.bin .pow (.cst (.int 10)) (.cst (.int 30)))) (.call c_l_take (.cons (.var 0) (.cons (.bin .pow (.cst (.int 10)) (.cst (.int 6))) .nil)))))
    .nil))
  (.cons (.ret (.bin .mul (.bin .add (.bin .mul (.var 1) (.bin .pow (.cst (.int 10)) (.cst (.int 9)))) (.call c_l_take (.cons (.var 0) (.cons (.bin .pow (.cst (.int 10)) (.cst (.int 6))) .nil)))) (.bin .sub (.cst (.int 1)) (.bin .mul (.cst (.int 2)) (.call c_l_take (.cons (.var 0) (.cons (.cst (.int 2)) .nil)))))))
  .nil)))
-- np nn = 2 3
-- np nn = 1 2
def L_l_ratio (c_l_number c_l_low c_l_take : Nat) : Cs := (.cons (.set 1 (.call c_l_number (.cons (.var 0) .nil)))
  (.cons (.ret (.call c_l_low (.cons (.var 1) (.cons (.bin .add (.cst (.int 1)) (.bin .mod (.blt .abs (.cons (.call c_l_number (.cons (.var 0) .nil)) .nil)) (.idx (.lsd false (.cons (.cst (.int 4)) (.cons (.cst (.int 4)) (.cons (.cst (.int 100)) (.cons (.bin .sub (.bin .pow (.cst (.int 10)) (.cst (.int 30))) (.cst (.int 1))) .nil))))) (.call c_l_take (.cons (.var 0) (.cons (.cst (.int 4)) .nil)))))) .nil))))
  .nil))
-- np nn = 2 5
-- np nn = 1 2
-- np nn = 1 1
-- np nn = 2 2
def cGreat : Ct := fun f => ∀ (S : Store) (l : Nat) (Q : Val → Store → Prop) (X : Xt), Purse S l → (∀ (d : Int) (T : Store), d.natAbs < 2 ^ 1400 → d ≠ 0 → Dr l S T → Q (.int d) T) → W (f [.ref l] S) Q X
def cRatio : Ct := fun f => ∀ (S : Store) (l : Nat) (Q : Val → Store → Prop) (X : Xt), Purse S l → (∀ (x y : Int) (T : Store), IsR x y → x.natAbs < 2 ^ 110 → y.natAbs < 2 ^ 110 → Dr l S T → Q (.tup [.int x, .int y]) T) → W (f [.ref l] S) Q X
theorem W_pow6 {S : Store} {Q : Val → Store → Prop} {X : Xt} : W (bopV .pow (.int 10) (.int 6) S) Q X = Q (.int 1000000) S := by rw [pow_6]; rfl
theorem W_pow9 {S : Store} {Q : Val → Store → Prop} {X : Xt} : W (bopV .pow (.int 10) (.int 9) S) Q X = Q (.int 1000000000) S := by rw [pow_9]; rfl
theorem W_pow30 {S : Store} {Q : Val → Store → Prop} {X : Xt} : W (bopV .pow (.int 10) (.int 30) S) Q X = Q (.int 1000000000000000000000000000000) S := by rw [pow_30]; rfl
theorem mulOk_s {x y : Int} (h : y.natAbs < 2 ^ 64) : mulOk x y = true := mulOk_r h
section
variable {P : Pg} {fu d : Nat}
theorem great_at {i tk : Nat} (h : P.defs[i]? = some ⟨1, 3, L_l_great tk⟩) (ht : At P fu d tk cTake) : At P fu (d + 1) i cGreat := .mk h fun n hd S l Q X p hq => by
  have ht := ht n hd
  rw [W_run rfl]
  simp! [L_l_great]
  refine ht S l 3 _ _ p (by decide) (by decide) fun w S1 w1 D1 => ?_
  simp! [show (13 : Int) = ((13 : Nat) : Int) from rfl, W_rng (show 13 < 4611686018427387904 by decide)]
  refine WF_for (fun k en T => ∃ (x : Int) (o : Option Val), en = [some (.ref l), some (.int x), o] ∧ 0 < x ∧ x < 4 * 1000000000000000000000000000000 ^ k ∧ Dr l S1 T) ⟨1 + w, none, rfl, by omega, by simp; omega, .refl D1.pu⟩ (fun _ _ _ _ => live_nil _) ?_ ?_
  · rintro k v en T hk ⟨x, o, rfl, x0, x1, D⟩
    refine ⟨_, rfl, ?_⟩
    have hx : x < 2 ^ 1300 := by
      obtain ⟨_, hj'⟩ := rngL_at hk
      have hp : (1000000000000000000000000000000 : Int) ^ k ≤ 1000000000000000000000000000000 ^ 13 := ipow_le (a := 1000000000000000000000000000000) (by decide) (show k ≤ 13 by omega)
      have : (4 * 1000000000000000000000000000000 ^ 13 : Int) ≤ 2 ^ 1300 := by decide
      omega
    simp! [W_pow30, W_pow6, mulOk_p (i := x) (j := 1000000000000000000000000000000) (n := 1300) (m := 100) (by omega) (by decide) (by decide)]
    refine ht T l 1000000 _ _ D.pu (by decide) (by decide) fun y T2 y1 D2 => ?_
    simp! [GW.W_ok]
    refine ⟨_, _, rfl, by omega, ?_, D.trans D2⟩
    rw [Int.pow_succ]
    omega
  · rintro en T ⟨x, o, rfl, x0, x1, D⟩
    rw [rngL_len] at x1
    have hx : x < 2 ^ 1300 := by
      have : (4 * 1000000000000000000000000000000 ^ 13 : Int) ≤ 2 ^ 1300 := by decide
      omega
    simp! [W_pow9, W_pow6, mulOk_s (x := x) (y := 1000000000) (by decide)]
    refine ht T l 1000000 _ _ D.pu (by decide) (by decide) fun y T2 y1 D2 => ?_
    simp! [GW.W_ok]
    refine ht T2 l 2 _ _ D2.pu (by decide) (by decide) fun t T3 t1 D3 => ?_
    simp! [mulOk_s (x := 2) (y := (t : Int)) (by omega), mulOk_s (x := x * 1000000000 + y) (y := 1 - 2 * (t : Int)) (by omega)]
    have hb : (x * 1000000000 + y).natAbs < 2 ^ 1400 := by
      have : (2 : Int) ^ 1300 * 1000000000 + 1000000 ≤ 2 ^ 1400 := by decide
      omega
    have : t = 0 ∨ t = 1 := by omega
    refine hq _ _ ?_ ?_ (D1.trans (D.trans (D2.trans D3)))
    · rcases this with rfl | rfl <;> omega
    · rcases this with rfl | rfl <;> omega
theorem ratio_at {i nu lw tk : Nat} (h : P.defs[i]? = some ⟨1, 2, L_l_ratio nu lw tk⟩) (hn : At P fu d nu cNumber) (hl : At P fu d lw cLow) (ht : At P fu d tk cTake) : At P fu (d + 1) i cRatio := .mk h fun n hd S l Q X p hq => by
  have ht := ht n hd
  have hn := hn n hd
  rw [W_run rfl]
  simp! [L_l_ratio]
  refine hn S l _ _ p fun t S1 t1 D1 => ?_
  simp! [GW.W_ok]
  refine hn S1 l _ _ D1.pu fun b S2 b1 D2 => ?_
  simp! [W_pow30]
  refine ht S2 l 4 _ _ D2.pu (by decide) (by decide) fun k S3 k1 D3 => ?_
  have hz : ∃ z : Int, 0 < z ∧ z < 2 ^ 109 ∧ idxV (.lst [.int 4, .int 4, .int 100, .int (1000000000000000000000000000000 - 1)]) (.int k) S3 = .ok (.int z) S3 := by
    have : k = 0 ∨ k = 1 ∨ k = 2 ∨ k = 3 := by omega
    rcases this with rfl | rfl | rfl | rfl
    · exact ⟨4, by decide, by decide, rfl⟩
    · exact ⟨4, by decide, by decide, rfl⟩
    · exact ⟨100, by decide, by decide, rfl⟩
    · exact ⟨999999999999999999999999999999, by decide, by decide, rfl⟩
  obtain ⟨z, z0, z1, ez⟩ := hz
  have hm := fmod_nn (b.natAbs : Int) z0
  have hb : 1 + (b.natAbs : Int).fmod z ≠ 0 := by omega
  have hs : (1 + (b.natAbs : Int).fmod z).natAbs < 2 ^ 110 := by omega
  obtain ⟨x, y, exy, _, _, r, hx, hy⟩ := low_parts t hb
  have e4 := hl n hd S3 t _ hb (pow_up hs (by decide))
  rw [exy] at e4
  simp! [ez, show z ≠ 0 by omega, ne_eq, not_false_eq_true, e4]
  have : (2 : Nat) ^ 100 < 2 ^ 110 := by decide
  exact hq x y S3 r (by omega) (by omega) (D1.trans (D2.trans D3))
end
end GW
set_option exponentiation.threshold 20000
/-! Core 43: things that are odd. -/
namespace GW
open PySem
def AllL (f : Val → Prop) : List Val → Prop
  | [] => True
  | x :: xs => f x ∧ AllL f xs
theorem allL_iff {f : Val → Prop} : ∀ {xs : List Val}, AllL f xs ↔ ∀ x ∈ xs, f x
  | [] => by simp [AllL]
  | x :: xs => by simp [AllL, allL_iff (xs := xs)]
mutual
def cnt : Val → Nat
  | .tup xs => cnts xs
  | .lst xs => cnts xs
  | .str _ => 8
  | .ref _ => 190
  | _ => 0
def cnts : List Val → Nat
  | [] => 0
  | x :: xs => cnt x + 1 + cnts xs
end
def Lf (S : Store) : Nat → Val → Prop
  | 0, _ => False
  | k + 1, v => match v with
    | .non => True
    | .bl _ => True
    | .int i => i.natAbs < 2 ^ 1900
    | .str z => (z.cps.toList.all fun c => decide (c < 128)) = true ∧ z.cps.size ≤ 8
    | .tup xs => AllL (Lf S k) xs
    | .lst xs => AllL (Lf S k) xs
    | .ref m => S[m]? = some (.dct [] []) ∨ ∃ zs, S[m]? = some (.lst zs) ∧ AllL (Lf S k) zs ∧ cnts zs ≤ 190 ∧ zs.length ≤ 2
    | _ => False
theorem shs_cnt {S : Store} {k : Nat} (h : ∀ v, Lf S k v → Sh S k (cnt v) v) : ∀ xs : List Val, AllL (Lf S k) xs → Shs S k (cnts xs) xs
  | [], _ => shs_nil
  | x :: xs, q => shs_cons (h x q.1) (shs_cnt h xs q.2)
theorem Lf.sh {S : Store} : ∀ {k : Nat} {v : Val}, Lf S k v → Sh S k (cnt v) v
  | 0, _, h => by unfold Lf at h; exact h.elim
  | k + 1, v, h => by
    have ih := fun v => Lf.sh (S := S) (k := k) (v := v)
    cases v with
    | non => exact sh_non
    | bl b => exact sh_bl b
    | int i => exact sh_int h
    | str z =>
      refine ⟨.str z, rfl, rfl, ?_, h.2, by simp [PyData.depth]⟩
      unfold PyData.leavesShort
      exact List.all_eq_true.mpr fun c hc => decide_eq_true (Nat.lt_trans (of_decide_eq_true (List.all_eq_true.mp h.1 c hc)) (by decide))
    | tup xs => exact sh_tup (shs_cnt ih xs h)
    | lst xs => exact sh_lst (shs_cnt ih xs h)
    | scr _ => exact h.elim
    | ref m =>
      rcases h with h | ⟨zs, e, h, hc, _⟩
      · exact (sh_dct h).le (show 0 ≤ 190 by decide)
      · exact (sh_ref e (shs_cnt ih zs h)).le (show cnts zs ≤ 190 from hc)
    | fn _ => exact h.elim
    | exc _ _ => exact h.elim
theorem okvs_of {S : Store} {k : Nat} (h : ∀ v, Lf S k v → Okv S v) : ∀ xs : List Val, AllL (Lf S k) xs → Okvs S xs
  | [], _ => trivial
  | x :: xs, q => ⟨h x q.1, okvs_of h xs q.2⟩
theorem Lf.okv {S : Store} : ∀ {k : Nat} {v : Val}, Lf S k v → Okv S v
  | 0, _, h => by unfold Lf at h; exact h.elim
  | k + 1, v, h => by
    have ih := fun v => Lf.okv (S := S) (k := k) (v := v)
    cases v with
    | non => trivial
    | bl b => trivial
    | int i => exact pow_up h (by decide)
    | str z => exact Nat.le_trans h.2 (by decide)
    | tup xs => exact okvs_of ih xs h
    | lst xs => exact okvs_of ih xs h
    | scr _ => exact h.elim
    | ref m =>
      rcases h with h | ⟨zs, e, _⟩
      · exact ⟨_, h⟩
      · exact ⟨_, e⟩
    | fn _ => exact h.elim
    | exc _ _ => exact h.elim
theorem AllL.mono {f g : Val → Prop} (h : ∀ v, f v → g v) : ∀ {xs : List Val}, AllL f xs → AllL g xs
  | [], _ => trivial
  | x :: xs, q => ⟨h x q.1, AllL.mono h q.2⟩
theorem Lf.mono {S T : Store} (hs : ∀ (m : Nat) o, S[m]? = some o → (∀ a b c : Int, o ≠ .lst [.int a, .int b, .int c]) → T[m]? = some o) : ∀ {k : Nat} {v : Val}, Lf S k v → Lf T k v
  | 0, _, h => by unfold Lf at h; exact h.elim
  | k + 1, v, h => by
    have ih := fun v => Lf.mono (S := S) (T := T) hs (k := k) (v := v)
    cases v with
    | non => trivial
    | bl b => trivial
    | int i => exact h
    | str z => exact h
    | tup xs => exact AllL.mono ih h
    | lst xs => exact AllL.mono ih h
    | scr _ => exact h
    | ref m =>
      rcases h with h | ⟨zs, e, h, hc, hl⟩
      · exact .inl (hs _ _ h (fun _ _ _ e => by cases e))
      · exact .inr ⟨zs, hs _ _ e (fun _ _ _ e => by cases e; simp at hl), AllL.mono ih h, hc, hl⟩
    | fn _ => exact h
    | exc _ _ => exact h
theorem Lf.dr {S T : Store} {l k : Nat} {v : Val} (h : Lf S k v) (p : Purse S l) (D : Dr l S T) : Lf T k v := h.mono fun m o e ho => D.kp m o (p.ne e ho) e
theorem Lf.app {S : Store} {k : Nat} {v : Val} (h : Lf S k v) (T : Store) : Lf (S ++ T) k v := h.mono fun m o e _ => at_app e T
theorem Lf.up {S : Store} : ∀ {k : Nat} {v : Val}, Lf S k v → Lf S (k + 1) v
  | 0, _, h => by unfold Lf at h; exact h.elim
  | k + 1, v, h => by
    have ih := fun v => Lf.up (S := S) (k := k) (v := v)
    cases v with
    | tup xs => exact AllL.mono ih h
    | lst xs => exact AllL.mono ih h
    | ref m =>
      rcases h with h | ⟨zs, e, h, hc, hl⟩
      · exact .inl h
      · exact .inr ⟨zs, e, AllL.mono ih h, hc, hl⟩
    | _ => exact h
theorem cnts_ints : ∀ ns : List Int, cnts (ns.map .int) = ns.length
  | [] => rfl
  | x :: ns => by
    show 0 + 1 + cnts (ns.map .int) = ns.length + 1
    rw [cnts_ints ns]; omega
theorem cnts_app : ∀ xs ys : List Val, cnts (xs ++ ys) = cnts xs + cnts ys
  | [], ys => by simp [cnts]
  | x :: xs, ys => by simp only [List.cons_append, cnts, cnts_app xs ys]; omega
theorem allL_app {f : Val → Prop} {xs ys : List Val} (h : AllL f xs) (q : AllL f ys) : AllL f (xs ++ ys) := allL_iff.mpr fun v hv => by
  rcases List.mem_append.mp hv with hv | hv
  · exact allL_iff.mp h v hv
  · exact allL_iff.mp q v hv
structure Odd (S : Store) (v : Val) : Prop where
  lf : Lf S 6 v
  cn : cnt v ≤ 400
theorem Odd.ok {S : Store} {v : Val} (h : Odd S v) : Okv S v := h.lf.okv
theorem Odd.sh {S : Store} {v : Val} (h : Odd S v) : Sh S 6 400 v := h.lf.sh.le h.cn
theorem Odd.dr {S T : Store} {l : Nat} {v : Val} (h : Odd S v) (p : Purse S l) (D : Dr l S T) : Odd T v := ⟨h.lf.dr p D, h.cn⟩
theorem Odd.app {S : Store} {v : Val} (h : Odd S v) (T : Store) : Odd (S ++ T) v := ⟨h.lf.app T, h.cn⟩
def isRef : Val → Bool
  | .ref _ => true
  | .lst _ => true
  | _ => false
def isLst : Val → Bool
  | .lst _ => true
  | _ => false
theorem mkL_odd (b : Bool) {zs : List Val} (S : Store) (h : AllL (Lf S 5) zs) (hc : cnts zs ≤ 190) (hl : zs.length ≤ 2) : ∃ v T, mkL b zs S = .ok v (S ++ T) ∧ Odd (S ++ T) v ∧ isRef v = true ∧ cnt v ≤ 190 ∧ (∀ k, AllL (Lf S k) zs → Lf (S ++ T) (k + 1) v) ∧ (b = true → isLst v = false) := by
  have hz : zs.length ≤ sizeLine := Nat.le_trans hl (by decide)
  cases b with
  | true => exact ⟨.ref S.length, [.lst zs], by unfold mkL; rw [if_pos hz]; rfl, ⟨.inr ⟨zs, at_new _ _ _, AllL.mono (fun v h => h.app _) h, hc, hl⟩, show 190 ≤ 400 by decide⟩, rfl, Nat.le_refl _, fun k h => .inr ⟨zs, at_new _ _ _, AllL.mono (fun v h => h.app _) h, hc, hl⟩, fun _ => rfl⟩
  | false => exact ⟨.lst zs, [], by unfold mkL; rw [if_pos hz, List.append_nil]; rfl, ⟨AllL.mono (fun v h => h.app _) h, show cnts zs ≤ 400 by omega⟩, rfl, hc, fun k h => AllL.mono (fun v h => h.app _) h, fun e => by cases e⟩
theorem mkD_odd (S : Store) : ∃ v T, mkD [] [] S = .ok v (S ++ T) ∧ Odd (S ++ T) v ∧ isRef v = true ∧ isLst v = false := ⟨.ref S.length, [.dct [] []], rfl, ⟨.inl (at_new _ _ _), show 190 ≤ 400 by decide⟩, rfl, rfl⟩
theorem ref_rat {v : Val} (h : isRef v = true) : isRat v = false := by cases v <;> first | rfl | cases h
theorem k19 {i : Int} (h : i.natAbs < 2 ^ 64) : i.natAbs < 2 ^ 1900 := pow_up h (by decide)
end GW
local macro_rules | `(tactic| walk_at "lfw") => `(tactic| (repeat' (first | exact trivial | assumption | (exact GW.k19 (by decide)) | (exact ⟨by decide, by decide⟩) | refine And.intro ?_ ?_)))
namespace GW
open PySem
end GW
local macro_rules | `(tactic| walk_at "cnw") => `(tactic| (first | (simp only [GW.cnt, GW.cnts, GW.cnts_ints]; omega) | decide))
namespace GW
open PySem
def cNoRatio (fl : Bool) : Ct := fun f => ∀ (S : Store) (l : Nat) (x y : Int) (Q : Val → Store → Prop) (X : Xt), Purse S l → IsR x y → x.natAbs < 2 ^ 1500 → y.natAbs < 2 ^ 1500 → (∀ (v : Val) (T : Store), Dr l S T → Odd T v → isRat v = false → (fl = true → isLst v = false) → Q v T) → W (f [.ref l, .tup [.int x, .int y]] S) Q X
-- np nn = 2 5
def L_l_no_ratio (b1 b2 : Bool) (c_l_take : Nat) : Cs := (.cons (.tset [3, 4] (.var 1))
  (.cons (.set 2 (.lsd false (.cons (.lsd b1 (.cons (.var 3) (.cons (.var 4) .nil))) (.cons (.tpd (.cons (.var 3) .nil)) (.cons (.tpd (.cons (.var 3) (.cons (.var 4) (.cons (.cst (.int 1)) .nil)))) (.cons (.tpd (.cons (.bin .mul (.cst (.int 2)) (.var 3)) (.cons (.bin .mul (.cst (.int 2)) (.var 4)) .nil))) (.cons (.tpd (.cons (.bin .sub (.cst (.int 0)) (.var 3)) (.cons (.bin .sub (.cst (.int 0)) (.var 4)) .nil))) (.cons (.tpd (.cons (.var 3) (.cons (.cst (.int 0)) .nil))) (.cons (.tpd (.cons (.cst (.bl true)) (.cons (.cst (.int 1)) .nil))) .nil)))))))))
  (.cons (.set 2 (.bin .add (.var 2) (.lsd false (.cons (.tpd (.cons (.var 3) (.cons (.cst (.bl true)) .nil))) (.cons (.tpd (.cons (.cst .non) (.cons (.cst (.int 1)) .nil))) (.cons (.var 3) (.cons (.cst (.str "1/2")) (.cons (.cst .non) (.cons (.tpd (.cons (.cst (.str "1")) (.cons (.cst (.int 2)) .nil))) (.cons (.tpd (.cons (.var 1) (.cons (.cst (.int 1)) .nil))) (.cons (.dcd .nil .nil) (.cons (.cst (.bl true)) (.cons (.tpd .nil) (.cons (.lsd b2 (.cons (.var 1) .nil)) (.cons (.tpd (.cons (.cst (.bl false)) (.cons (.cst (.int 1)) .nil))) (.cons (.cst (.int 0)) .nil))))))))))))))))
  (.cons (.ret (.idx (.var 2) (.call c_l_take (.cons (.var 0) (.cons (.cst (.int 20)) .nil)))))
  .nil))))
section
variable {P : Pg} {fu d : Nat}
theorem no_ratio_at {i tk : Nat} {b1 b2 : Bool} (h : P.defs[i]? = some ⟨2, 5, L_l_no_ratio b1 b2 tk⟩) (ht : At P fu d tk cTake) : At P fu (d + 1) i (cNoRatio (b1 && b2)) := .mk h fun n hd S l x y Q X p r hx hy hq => by
  have ht := ht n hd
  have x9 : x.natAbs < 2 ^ 9000 := pow_up hx (by decide)
  have y9 : y.natAbs < 2 ^ 9000 := pow_up hy (by decide)
  have x1 : x.natAbs < 2 ^ 1900 := pow_up hx (by decide)
  have y1 : y.natAbs < 2 ^ 1900 := pow_up hy (by decide)
  have xx : (2 * x).natAbs < 2 ^ 1900 := by have : (2 : Nat) ^ 1500 * 2 ≤ 2 ^ 1900 := by decide
                                            omega
  have yy : (2 * y).natAbs < 2 ^ 1900 := by have : (2 : Nat) ^ 1500 * 2 ≤ 2 ^ 1900 := by decide
                                            omega
  have xx9 : (2 * x).natAbs < 2 ^ 9000 := pow_up xx (by decide)
  have yy9 : (2 * y).natAbs < 2 ^ 9000 := pow_up yy (by decide)
  have xm : (0 - x).natAbs < 2 ^ 1900 := by omega
  have ym : (0 - y).natAbs < 2 ^ 1900 := by omega
  have xm9 : (0 - x).natAbs < 2 ^ 9000 := pow_up xm (by decide)
  have ym9 : (0 - y).natAbs < 2 ^ 9000 := pow_up ym (by decide)
  obtain ⟨v1, T1, e1, o1, f1, _, _, g1⟩ := mkL_odd b1 (zs := [.int x, .int y]) S (by walk_at "lfw") (by walk_at "cnw") (by simp)
  obtain ⟨v2, T2, e2, o2, f2, g2⟩ := mkD_odd (S ++ T1)
  obtain ⟨v3, T3, e3, o3, f3, _, _, g3⟩ := mkL_odd b2 (zs := [.tup [.int x, .int y]]) (S ++ T1 ++ T2) (by walk_at "lfw") (by walk_at "cnw") (by simp)
  have o1' := (o1.app T2).app T3
  have o2' := o2.app T3
  have p' : Purse (S ++ T1 ++ T2 ++ T3) l := ((p.app T1).app T2).app T3
  have D0 : Dr l S (S ++ T1 ++ T2 ++ T3) := ((Dr.app p T1).trans (Dr.app (p.app T1) T2)).trans (Dr.app ((p.app T1).app T2) T3)
  generalize S ++ T1 ++ T2 ++ T3 = U at e3 o3 o1' o2' p' D0
  rw [W_run rfl]
  simp! [L_l_no_ratio, putT, List.zip_cons_cons, List.zip_nil_right, List.foldl_cons, List.foldl_nil, e1, e2, e3, mulOk_p (i := 2) (j := x) (n := 2) (m := 1500) (by decide) hx (by decide), mulOk_p (i := 2) (j := y) (n := 2) (m := 1500) (by decide) hy (by decide)]
  refine ht U l 20 _ _ p' (by decide) (by decide) fun k T k1 D => ?_
  have hk : k < 20 := by omega
  have key : ∀ A : List Val, A.length = 20 → (∀ v ∈ A, Odd T v ∧ isRat v = false) → (∀ v ∈ A, (b1 && b2) = true → isLst v = false) → W (idxV (.lst A) (.int k) T) Q X := fun A hl hA hB => by
    have hg : A[k]? = some (A[k]'(by omega)) := List.getElem?_eq_getElem _
    have hm := hA _ (List.getElem_mem (show k < A.length by omega))
    rw [W_idxLN hg]
    exact hq _ _ (D0.trans D) hm.1 hm.2 (hB _ (List.getElem_mem _))
  refine key _ rfl ?_ ?_
  case refine_2 =>
    simp only [List.mem_cons, List.not_mem_nil, or_false, Bool.and_eq_true]
    rintro v hv ⟨z1, z2⟩
    rcases hv with rfl | rfl | rfl | rfl | rfl | rfl | rfl | rfl | rfl | rfl | rfl | rfl | rfl | rfl | rfl | rfl | rfl | rfl | rfl | rfl <;> first | rfl | exact g1 z1 | exact g2 | exact g3 z2
  have hp := r.pos
  simp only [List.mem_cons, List.not_mem_nil, or_false]
  rintro v (rfl | rfl | rfl | rfl | rfl | rfl | rfl | rfl | rfl | rfl | rfl | rfl | rfl | rfl | rfl | rfl | rfl | rfl | rfl | rfl)
  · exact ⟨o1'.dr p' D, ref_rat f1⟩
  · exact ⟨Odd.mk (by walk_at "lfw") (by walk_at "cnw"), rfl⟩
  · exact ⟨Odd.mk (by walk_at "lfw") (by walk_at "cnw"), rfl⟩
  · refine ⟨Odd.mk (by walk_at "lfw") (by walk_at "cnw"), ?_⟩
    have : Int.gcd (2 * x) (2 * y) = 2 := by rw [Int.gcd_mul_left, r.low]; rfl
    simp [isRat, this]
  · refine ⟨Odd.mk (by walk_at "lfw") (by walk_at "cnw"), ?_⟩
    simp [isRat]; omega
  · exact ⟨Odd.mk (by walk_at "lfw") (by walk_at "cnw"), rfl⟩
  · exact ⟨Odd.mk (by walk_at "lfw") (by walk_at "cnw"), rfl⟩
  · exact ⟨Odd.mk (by walk_at "lfw") (by walk_at "cnw"), rfl⟩
  · exact ⟨Odd.mk (by walk_at "lfw") (by walk_at "cnw"), rfl⟩
  · exact ⟨Odd.mk (by walk_at "lfw") (by walk_at "cnw"), rfl⟩
  · exact ⟨Odd.mk (by walk_at "lfw") (by walk_at "cnw"), rfl⟩
  · exact ⟨Odd.mk (by walk_at "lfw") (by walk_at "cnw"), rfl⟩
  · exact ⟨Odd.mk (by walk_at "lfw") (by walk_at "cnw"), rfl⟩
  · exact ⟨Odd.mk (by walk_at "lfw") (by walk_at "cnw"), rfl⟩
  · exact ⟨o2'.dr p' D, ref_rat f2⟩
  · exact ⟨Odd.mk (by walk_at "lfw") (by walk_at "cnw"), rfl⟩
  · exact ⟨Odd.mk (by walk_at "lfw") (by walk_at "cnw"), rfl⟩
  · exact ⟨o3.dr p' D, ref_rat f3⟩
  · exact ⟨Odd.mk (by walk_at "lfw") (by walk_at "cnw"), rfl⟩
  · exact ⟨Odd.mk (by walk_at "lfw") (by walk_at "cnw"), rfl⟩
end
end GW
set_option exponentiation.threshold 20000
/-! Core 44: rows that are odd. -/
namespace GW
open PySem
section
variable {S : Store} {Q : Val → Store → Prop} {X : Xt}
end
-- np nn = 3 9
section
variable {P : Pg} {fu d : Nat}
end
end GW
set_option exponentiation.threshold 20000
/-! Core 45: what is shown alike; rows by the laws' own look. -/
namespace GW
open PySem
theorem Lf.le {S : Store} {k m : Nat} {v : Val} (h : Lf S k v) (hm : k ≤ m) : Lf S m v := by
  induction hm with
  | refl => exact h
  | step _ ih => exact ih.up
def Lb : Nat → Val → Prop
  | 0, _ => False
  | k + 1, v => match v with
    | .non => True
    | .bl _ => True
    | .int i => i.natAbs < 2 ^ 11900
    | .str z => (z.cps.toList.all fun c => decide (c < 128)) = true ∧ z.cps.size ≤ 8
    | .tup xs => AllL (Lb k) xs
    | .lst xs => AllL (Lb k) xs
    | _ => False
def ShB (S : Store) (k w : Nat) (v : Val) : Prop := ∃ d, toD S k v = some d ∧ big d = true ∧ d.leavesShort 12001 = true ∧ d.bulk ≤ w ∧ d.depth ≤ k
def ShBs (S : Store) (k w : Nat) (xs : List Val) : Prop := ∃ ds, allD (toD S k) xs = some ds ∧ bigs ds = true ∧ PyData.leavesShortAll 12001 ds = true ∧ PyData.bulkAll ds ≤ w ∧ PyData.depthAll ds ≤ k
theorem shBs_cnt {S : Store} {k : Nat} (h : ∀ v, Lb k v → ShB S k (cnt v) v) : ∀ xs : List Val, AllL (Lb k) xs → ShBs S k (cnts xs) xs
  | [], _ => ⟨[], rfl, rfl, rfl, Nat.zero_le _, by simp [PyData.depthAll]⟩
  | x :: xs, q => by
    obtain ⟨d, a1, a2, a3, a4, a5⟩ := h x q.1
    obtain ⟨ds, b1, b2, b3, b4, b5⟩ := shBs_cnt h xs q.2
    refine ⟨d :: ds, ?_, ?_, ?_, ?_, ?_⟩
    · unfold allD; rw [a1, b1]
    · simp only [bigs, a2, b2, Bool.and_true]
    · simp only [PyData.leavesShortAll, a3, b3, Bool.and_true]
    · simp only [PyData.bulkAll, cnts]; omega
    · simp only [PyData.depthAll]; omega
theorem Lb.sh {S : Store} : ∀ {k : Nat} {v : Val}, Lb k v → ShB S k (cnt v) v
  | 0, _, h => by unfold Lb at h; exact h.elim
  | k + 1, v, h => by
    have ih := fun v => Lb.sh (S := S) (k := k) (v := v)
    cases v with
    | non => exact ⟨.none, rfl, rfl, rfl, Nat.zero_le _, by simp [PyData.depth]⟩
    | bl b => exact ⟨.bool b, rfl, rfl, rfl, Nat.zero_le _, by simp [PyData.depth]⟩
    | int i =>
      have h' : i.natAbs < 2 ^ 11900 := h
      have hl : i.natAbs.log2 < 12000 := by
        by_cases z : i.natAbs = 0
        · rw [z]; decide
        · exact Nat.lt_trans ((Nat.log2_lt z).mpr h') (by decide)
      refine ⟨.int i, rfl, by unfold big; exact decide_eq_true hl, ?_, Nat.zero_le _, by simp [PyData.depth]⟩
      unfold PyData.leavesShort PyData.shown
      refine decide_eq_true ?_
      rw [ofString_length]
      exact int_text_length_le (k := 12000) (by decide) hl
    | str z =>
      refine ⟨.str z, rfl, rfl, ?_, h.2, by simp [PyData.depth]⟩
      unfold PyData.leavesShort
      exact List.all_eq_true.mpr fun c hc => decide_eq_true (Nat.lt_trans (of_decide_eq_true (List.all_eq_true.mp h.1 c hc)) (by decide))
    | tup xs =>
      obtain ⟨ds, b1, b2, b3, b4, b5⟩ := shBs_cnt ih xs h
      exact ⟨.tuple ds, by show (allD (toD S k) xs).map PyData.tuple = _; rw [b1]; rfl, by simpa only [big] using b2, by simpa only [PyData.leavesShort] using b3, by simpa only [PyData.bulk, cnt] using b4, by simp only [PyData.depth]; omega⟩
    | lst xs =>
      obtain ⟨ds, b1, b2, b3, b4, b5⟩ := shBs_cnt ih xs h
      exact ⟨.list ds, by show (allD (toD S k) xs).map PyData.list = _; rw [b1]; rfl, by simpa only [big] using b2, by simpa only [PyData.leavesShort] using b3, by simpa only [PyData.bulk, cnt] using b4, by simp only [PyData.depth]; omega⟩
    | scr _ => exact h.elim
    | ref _ => exact h.elim
    | fn _ => exact h.elim
    | exc _ _ => exact h.elim
theorem Lb.up : ∀ {k : Nat} {v : Val}, Lb k v → Lb (k + 1) v
  | 0, _, h => by unfold Lb at h; exact h.elim
  | k + 1, v, h => by
    have ih := fun v => Lb.up (k := k) (v := v)
    cases v with
    | tup xs => exact AllL.mono ih h
    | lst xs => exact AllL.mono ih h
    | _ => exact h
theorem Lb.le {k m : Nat} {v : Val} (h : Lb k v) (hm : k ≤ m) : Lb m v := by
  induction hm with
  | refl => exact h
  | step _ ih => exact ih.up
/-! the laws' own look -/
section
variable {P : Pg} {fu d : Nat}
end
end GW
set_option exponentiation.threshold 20000
/-! Core 46: a law's loop; a walk cut in two. -/
namespace GW
open PySem
end GW
local macro_rules
  | `(tactic| simp_all! [$[$ls],*]) => `(tactic| try simp only [GW.W_ok, GW.W_exc, GW.WF_nx, GW.WF_rt, GW.WF_ex, GW.W_cst, GW.W_var, GW.W_glo, GW.W_bin, GW.W_neg, GW.W_not, GW.W_and, GW.W_or, GW.W_cmp, GW.W_chn, GW.W_ife, GW.W_isi, GW.W_idx, GW.W_slc, GW.W_slcR, GW.W_newR, GW.W_tpd, GW.W_lsd, GW.W_dcd, GW.W_blt, GW.W_call, GW.W_callD, GW.W_mth, GW.W_lc, GW.Ws_n, GW.Ws_c, GW.Wp_n, GW.intQ_i, GW.Wp_y, GW.Wc_n, GW.Wc_c, GW.Wi_val, GW.Wi_rng1, GW.Wi_rng2, GW.Wi_enm, GW.Wi_zip, GW.Wi_rev, GW.F_set, GW.F_tset, GW.F_par, GW.F_sset, GW.F_exp, GW.F_ret, GW.F_retN, GW.F_pas, GW.F_for, GW.F_rai, GW.F_tri, GW.S_n, GW.S_c, GW.H_n, GW.H_some, GW.H_none, GW.getS_s, GW.getS_0, GW.W_optB, GW.W_truB, GW.W_mkT, GW.W_mkLf, GW.W_mkLt, GW.W_add, GW.W_sub, GW.W_mul, GW.W_div, GW.W_mod, GW.W_addL, GW.W_addT, GW.W_lenT, GW.W_lenL, GW.W_lenC, GW.W_abs, GW.W_intB, GW.W_intI, GW.W_tupleL, GW.W_tupleT, GW.W_listL, GW.W_listT, GW.W_listRL, GW.W_listRT, GW.W_neg', GW.W_max2, GW.W_min2, GW.W_eqI, GW.W_neI, GW.W_ltI, GW.W_leI, GW.W_gtI, GW.W_geI, GW.W_idxT0, GW.W_idxT1, GW.W_idxT2, GW.items_t, GW.items_l, GW.W_enmT, GW.W_enmL, GW.W_zipTT, GW.W_zipLL, GW.ex_some, GW.isi_t_int, GW.isi_t_bool, GW.isi_t_str, GW.isi_t_tup, GW.isi_t_lst, GW.isi_t_lt, GW.isi_l_int, GW.isi_l_bool, GW.isi_l_str, GW.isi_l_tup, GW.isi_l_lst, GW.isi_l_lt, GW.isi_i_int, GW.isi_i_bool, GW.isi_i_str, GW.isi_i_tup, GW.isi_i_lst, GW.isi_i_lt, GW.isi_b_int, GW.isi_b_bool, GW.isi_b_str, GW.isi_b_tup, GW.isi_b_lst, GW.isi_b_lt, GW.isi_s_int, GW.isi_s_bool, GW.isi_s_str, GW.isi_s_tup, GW.isi_s_lst, GW.isi_s_lt, GW.isi_n_int, GW.isi_n_bool, GW.isi_n_str, GW.isi_n_tup, GW.isi_n_lst, GW.isi_n_lt, GW.om_call, GW.om_fu, GW.om_nf, GW.om_nc, GW.om_sub, GW.start0, List.set_cons_zero, List.set_cons_succ, List.map_cons, List.map_nil, List.length_cons, List.length_nil, List.replicate, List.cons_append, List.nil_append, Nat.reduceAdd, Nat.reduceSub, Nat.reduceLeDiff, true_and, and_true, Bool.not_true, Bool.not_false, Bool.false_eq_true, if_true, if_false, ite_true, ite_false, decide_true, decide_false, $[$ls],*])
namespace GW
open PySem
theorem WF_cut {f : Fl} {N : Enm → Store → Prop} {R : Val → Store → Prop} {Y : Nat → List Val → Enm → Store → Prop} (M : Enm → Store → Prop) (h : WF f M R Y) (k : ∀ en S, M en S → N en S) : WF f N R Y := h.mono k (fun _ _ h => h) (fun _ _ _ _ h => h)
theorem turns_nat (k n : Nat) (hk : k ≤ 64) : ∃ m : Nat, max 2 (min (k : Int) (n : Int)) = (m : Int) ∧ m < 4611686018427387904 := ⟨(max 2 (min (k : Int) (n : Int))).toNat, by omega, by omega⟩
end GW
set_option exponentiation.threshold 20000
/-! Core 47: tables. -/
namespace GW
open PySem
-- np nn = 2 5
-- np nn = 1 2
-- np nn = 1 1
-- np nn = 2 2
-- np nn = 2 7
-- np nn = 2 7
-- np nn = 1 3
-- np nn = 2 4
-- np nn = 2 5
-- np nn = 1 1
-- np nn = 2 4
-- np nn = 2 3
-- np nn = 2 4
-- np nn = 1 1
-- np nn = 2 5
-- np nn = 3 7
-- np nn = 1 2
def tabV (rs : List (List Int)) (b : Int) : Val := .tup [.tup (rs.map tI), .int b]
def cutT (g : Int) (rs : List (List Int)) : List (List Int) := rs.map fun r => r.map fun x => x.fdiv g
def shortT (rs : List (List Int)) (b : Int) : Val := tabV (cutT (gcdL rs.flatten b) rs) (b.fdiv (gcdL rs.flatten b))
theorem cutT_flat (g : Int) (rs : List (List Int)) : (cutT g rs).flatten = rs.flatten.map fun x => x.fdiv g := by
  unfold cutT
  rw [← List.map_flatten]
structure IsTab (rs : List (List Int)) (b : Int) (w : Nat) : Prop where
  lo : 1 ≤ rs.length
  hi : rs.length ≤ 12
  wlo : 1 ≤ w
  whi : w ≤ 12
  wd : ∀ r ∈ rs, r.length = w
  pos : 0 < b
  low : gcdL rs.flatten b = 1
theorem shortT_is {rs : List (List Int)} {b : Int} {w k : Nat} (h1 : 1 ≤ rs.length) (h2 : rs.length ≤ 12) (w1 : 1 ≤ w) (w2 : w ≤ 12) (hw : ∀ r ∈ rs, r.length = w) (hb : 0 < b) (hk : Bdd k rs.flatten b) : ∃ ms c, shortT rs b = tabV ms c ∧ IsTab ms c w ∧ Bdd k ms.flatten c ∧ ms.length = rs.length := by
  obtain ⟨ms, c, e, _, _, c0, g1, _, cb, sz⟩ := short_parts rs.flatten hb
  unfold shortV rowV at e
  simp only [Val.tup.injEq, List.cons.injEq, Val.int.injEq, and_true] at e
  obtain ⟨e1, e2⟩ := e
  have e1' : (cutT (gcdL rs.flatten b) rs).flatten = ms := by
    rw [cutT_flat]
    have := congrArg (List.map intOf) e1
    rwa [intOf_map, intOf_map] at this
  refine ⟨cutT (gcdL rs.flatten b) rs, c, by unfold shortT; rw [e2], ⟨by simp [cutT, h1], by simp [cutT, h2], w1, w2, ?_, c0, by rw [e1']; exact g1⟩, by rw [e1']; exact ⟨sz k hk.ns, by have := hk.b; omega⟩, by simp [cutT]⟩
  intro r hr
  obtain ⟨s, hs, rfl⟩ := List.mem_map.mp hr
  rw [List.length_map]; exact hw s hs
/-! which things are tables -/
def isRws : Val → Bool
  | .tup rs => decide (1 ≤ rs.length) && decide (rs.length ≤ 12) && rs.all isNums && (rs.all fun r => match r, rs with
    | .tup xs, .tup ys :: _ => decide (xs.length = ys.length)
    | _, _ => false)
  | _ => false
def intsOf : Val → List Int
  | .tup xs => xs.map intOf
  | _ => []
def isTab : Val → Bool
  | .tup [.tup rs, .int b] => isRws (.tup rs) && decide (0 < b) && decide (gcdL (rs.map intsOf).flatten b = 1)
  | _ => false
theorem intsOf_map (rs : List (List Int)) : (rs.map tI).map intsOf = rs := by
  rw [List.map_map]
  conv => rhs; rw [← List.map_id rs]
  exact List.map_congr_left fun r _ => intOf_map r
theorem isNums_tI {r : List Int} (h1 : 1 ≤ r.length) (h2 : r.length ≤ 12) : isNums (tI r) = true := by
  simp only [isNums, tI, List.length_map, all_numb, Bool.and_true, Bool.and_eq_true, decide_eq_true_eq]
  exact ⟨h1, h2⟩
theorem isRws_iff {xs : List Val} : isRws (.tup xs) = true ↔ ∃ (rs : List (List Int)) (w : Nat), xs = rs.map tI ∧ 1 ≤ rs.length ∧ rs.length ≤ 12 ∧ 1 ≤ w ∧ w ≤ 12 ∧ ∀ r ∈ rs, r.length = w := by
  constructor
  · intro h
    simp only [isRws, Bool.and_eq_true, decide_eq_true_eq] at h
    obtain ⟨⟨⟨h1, h2⟩, h3⟩, h4⟩ := h
    have hx : ∀ x ∈ xs, ∃ r : List Int, x = tI r ∧ 1 ≤ r.length ∧ r.length ≤ 12 := fun x hx => by
      have := List.all_eq_true.mp h3 x hx
      have ht : ∃ ys, x = .tup ys := by cases x <;> first | exact ⟨_, rfl⟩ | cases this
      obtain ⟨ys, rfl⟩ := ht
      obtain ⟨ns, rfl, a, b⟩ := isNums_row this
      exact ⟨ns, rfl, a, b⟩
    have ex : xs = (xs.map intsOf).map tI := by
      rw [List.map_map]
      conv => lhs; rw [← List.map_id xs]
      refine List.map_congr_left fun x hx' => ?_
      obtain ⟨r, rfl, _⟩ := hx x hx'
      show tI r = tI (intsOf (tI r))
      rw [show intsOf (tI r) = r from intOf_map r]
    match xs, h1, hx, h4, ex, h2 with
    | x :: xs', _, hx, h4, ex, h2 =>
      obtain ⟨r0, rfl, a0, b0⟩ := hx x (List.mem_cons_self ..)
      refine ⟨(tI r0 :: xs').map intsOf, r0.length, ex, by simp, by simpa using h2, a0, b0, fun r hr => ?_⟩
      obtain ⟨y, hy, rfl⟩ := List.mem_map.mp hr
      obtain ⟨s, rfl, _⟩ := hx y hy
      have := List.all_eq_true.mp h4 _ hy
      simp only [tI, decide_eq_true_eq, List.length_map] at this
      rw [show intsOf (tI s) = s from intOf_map s]
      exact this
  · rintro ⟨rs, w, rfl, h1, h2, w1, w2, hw⟩
    simp only [isRws, Bool.and_eq_true, decide_eq_true_eq, List.length_map]
    refine ⟨⟨⟨h1, h2⟩, ?_⟩, ?_⟩
    · refine List.all_eq_true.mpr fun x hx => ?_
      obtain ⟨r, hr, rfl⟩ := List.mem_map.mp hx
      exact isNums_tI (by rw [hw r hr]; exact w1) (by rw [hw r hr]; exact w2)
    · refine List.all_eq_true.mpr fun x hx => ?_
      obtain ⟨r, hr, rfl⟩ := List.mem_map.mp hx
      match rs, hw, hr with
      | r0 :: rs', hw, hr =>
        simp only [List.map_cons, tI, decide_eq_true_eq, List.length_map]
        rw [hw r hr, hw r0 (List.mem_cons_self ..)]
theorem isTab_iff {v : Val} : isTab v = true ↔ ∃ (rs : List (List Int)) (b : Int) (w : Nat), v = tabV rs b ∧ IsTab rs b w := by
  constructor
  · intro h
    unfold isTab at h
    split at h
    · rename_i xs b
      simp only [Bool.and_eq_true, decide_eq_true_eq] at h
      obtain ⟨⟨h1, h2⟩, h3⟩ := h
      obtain ⟨rs, w, rfl, a1, a2, a3, a4, a5⟩ := isRws_iff.mp h1
      rw [intsOf_map] at h3
      exact ⟨rs, b, w, rfl, a1, a2, a3, a4, a5, h2, h3⟩
    · cases h
  · rintro ⟨rs, b, w, rfl, h⟩
    simp only [tabV, isTab, intsOf_map, Bool.and_eq_true, decide_eq_true_eq]
    exact ⟨⟨isRws_iff.mpr ⟨rs, w, rfl, h.lo, h.hi, h.wlo, h.whi, h.wd⟩, h.pos⟩, h.low⟩
theorem IsTab.is {rs : List (List Int)} {b : Int} {w : Nat} (h : IsTab rs b w) : isTab (tabV rs b) = true := isTab_iff.mpr ⟨rs, b, w, rfl, h⟩
theorem okv_tab {S : Store} {rs : List (List Int)} {b : Int} (h : Bdd 9000 rs.flatten b) : Okv S (tabV rs b) := by
  refine ⟨?_, h.b, trivial⟩
  refine okvs_iff.mpr fun x hx => ?_
  obtain ⟨r, hr, rfl⟩ := List.mem_map.mp hx
  refine okvs_iff.mpr fun y hy => ?_
  obtain ⟨z, hz, rfl⟩ := List.mem_map.mp hy
  exact h.ns z (List.mem_flatten.mpr ⟨r, hr, hz⟩)
structure Rws (S : Store) (v : Val) (rs : List (List Int)) (g : List Int → Val) : Prop where
  nu : ∀ r, Nums (g r) r
  it : items S v = some (rs.map g)
  lv : live S [v] [rs.map g]
section
variable {P : Pg} {fu d : Nat}
theorem bdd_row {k : Nat} {rs : List (List Int)} {b : Int} (h : Bdd k rs.flatten b) {r : List Int} (hr : r ∈ rs) : ∀ x ∈ r, x.natAbs < 2 ^ k := fun x hx => h.ns x (List.mem_flatten.mpr ⟨r, hr, hx⟩)
end
end GW
set_option exponentiation.threshold 20000
/-! Core 48: tables looked at, columns, sums. -/
namespace GW
open PySem
section
variable {P : Pg} {fu d : Nat}
end
/-! columns, sums of products -/
def colsL (rs : List (List Int)) (w : Nat) : List (List Int) := (List.range w).map fun j => rs.map fun r => r.getD j 0
section
variable {P : Pg} {fu d : Nat}
end
end GW
set_option exponentiation.threshold 20000
/-! Core 49: tables, reckoned and refused. -/
namespace GW
open PySem
section
variable {S : Store} {Q : Val → Store → Prop} {X : Xt}
theorem tyOk_ref {m : Nat} {zs : List Val} (h : S[m]? = some (.lst zs)) (t : Mth) (ht : t.isL = true) : tyOk t (.ref m) S = true := by
  unfold tyOk lstAt
  rw [if_pos ht]
  dsimp only
  rw [h]
  rfl
theorem mth_append {m : Nat} {zs : List Val} (h : S[m]? = some (.lst zs)) (hz : zs.length < 1000) (y : Val) : mthV .append (.ref m) [y] S = .ok .non (S.set m (.lst (zs ++ [y]))) := by
  unfold mthV lstAt
  rw [if_pos (show Mth.append.isL = true from rfl)]
  dsimp only
  rw [h]
  exact if_pos (Nat.lt_of_lt_of_le hz (by decide))
end
structure cTwoT (kt kf : Nat) (fit : Nat → Nat → Nat → Nat → Bool) (val : List (List Int) → Int → Nat → List (List Int) → Int → Nat → Val) (f : List Val → Store → Res Val) : Prop where
  bad1 : ∀ S u v, Okv S u → isTab u = false → f [u, v] S = .exc kt [u] S
  bad2 : ∀ S u v, Okv S u → Okv S v → isTab u = true → isTab v = false → f [u, v] S = .exc kt [v] S
  nofit : ∀ S rs b w ms c w', IsTab rs b w → IsTab ms c w' → Bdd 9000 rs.flatten b → Bdd 9000 ms.flatten c → fit rs.length w ms.length w' = false → f [tabV rs b, tabV ms c] S = .exc kf [.tup [tabV rs b, tabV ms c]] S
  ok : ∀ S rs b w ms c w', IsTab rs b w → IsTab ms c w' → Bdd 4000 rs.flatten b → Bdd 4000 ms.flatten c → fit rs.length w ms.length w' = true → ∃ T, f [tabV rs b, tabV ms c] S = .ok (val rs b w ms c w') (S ++ T)
theorem IsTab.head {rs : List (List Int)} {b : Int} {w : Nat} (h : IsTab rs b w) : ∃ r t, rs = r :: t ∧ r.length = w := by
  have h1 := h.lo
  match rs, h1, h.wd with
  | r :: t, _, hw => exact ⟨r, t, rfl, hw r (List.mem_cons_self ..)⟩
section
variable {P : Pg} {fu d : Nat}
theorem Bdd.okT {k : Nat} {rs : List (List Int)} {b : Int} (h : Bdd k rs.flatten b) (hk : k ≤ 9000) (S : Store) : Okv S (tabV rs b) := okv_tab (h.up hk)
end
end GW
set_option exponentiation.threshold 20000
/-! Core 50: products, flipped tables, tables taken so many times, applied, outer, mirrored. -/
namespace GW
open PySem
theorem cols_len (ms : List (List Int)) (w : Nat) : (colsL ms w).length = w := by simp [colsL]
theorem cols_row {ms : List (List Int)} {w : Nat} {c : List Int} (h : c ∈ colsL ms w) : c.length = ms.length := by
  obtain ⟨j, _, rfl⟩ := List.mem_map.mp h
  simp
theorem cols_bd {ms : List (List Int)} {w k : Nat} (hw : ∀ r ∈ ms, r.length = w) (h : ∀ x ∈ ms.flatten, x.natAbs < 2 ^ k) {c : List Int} (hc : c ∈ colsL ms w) : ∀ x ∈ c, x.natAbs < 2 ^ k := by
  obtain ⟨j, hj, rfl⟩ := List.mem_map.mp hc
  intro x hx
  obtain ⟨r, hr, rfl⟩ := List.mem_map.mp hx
  have hj' : j < r.length := by rw [hw r hr]; exact List.mem_range.mp hj
  rw [List.getD_eq_getElem?_getD, List.getElem?_eq_getElem hj']
  exact h _ (List.mem_flatten.mpr ⟨r, hr, List.getElem_mem hj'⟩)
section
variable {P : Pg} {fu d : Nat}
def timesT (rs : List (List Int)) (x : Int) : List (List Int) := rs.map fun r => timesI r x
structure cTimesT (ka kt : Nat) (f : List Val → Store → Res Val) : Prop where
  bad1 : ∀ S u v, Okv S u → isRat u = false → f [u, v] S = .exc ka [u] S
  bad2 : ∀ S u v, Okv S u → Okv S v → isRat u = true → isTab v = false → f [u, v] S = .exc kt [v] S
  ok : ∀ S x y rs b w, IsR x y → IsTab rs b w → x.natAbs < 2 ^ 4000 → y.natAbs < 2 ^ 4000 → Bdd 4000 rs.flatten b → f [.tup [.int x, .int y], tabV rs b] S = .ok (shortT (timesT rs x) (b * y)) S
def applI (rs : List (List Int)) (ns : List Int) : List Int := rs.map fun r => dotI r ns
structure cApplied (kt kr kf : Nat) (f : List Val → Store → Res Val) : Prop where
  bad1 : ∀ S u v, Okv S u → isTab u = false → f [u, v] S = .exc kt [u] S
  bad2 : ∀ S u v, Okv S u → Okv S v → isTab u = true → isRow v = false → f [u, v] S = .exc kr [v] S
  nofit : ∀ S rs b w ns c, IsTab rs b w → IsRow ns c → Bdd 9000 rs.flatten b → Bdd 9000 ns c → w ≠ ns.length → f [tabV rs b, rowV ns c] S = .exc kf [.tup [tabV rs b, rowV ns c]] S
  ok : ∀ S rs b w ns c, IsTab rs b w → IsRow ns c → Bdd 4000 rs.flatten b → Bdd 4000 ns c → w = ns.length → f [tabV rs b, rowV ns c] S = .ok (shortV (applI rs ns) (b * c)) S
def outerT (ns ms : List Int) : List (List Int) := ns.map fun x => ms.map fun y => x * y
structure cOuter (kr : Nat) (f : List Val → Store → Res Val) : Prop where
  bad1 : ∀ S u v, Okv S u → isRow u = false → f [u, v] S = .exc kr [u] S
  bad2 : ∀ S u v, Okv S u → Okv S v → isRow u = true → isRow v = false → f [u, v] S = .exc kr [v] S
  ok : ∀ S ns b ms c, IsRow ns b → IsRow ms c → Bdd 4000 ns b → Bdd 4000 ms c → f [rowV ns b, rowV ms c] S = .ok (shortT (outerT ns ms) (b * c)) S
end
end GW
set_option exponentiation.threshold 20000
/-! Core 51: rows told. -/
namespace GW
open PySem
-- np nn = 3 3
-- np nn = 1 1
-- np nn = 1 3
-- np nn = 1 2
-- np nn = 1 1
-- np nn = 2 2
-- np nn = 1 4
def isWh (lo hi : Int) : Val → Bool
  | .int i => decide (lo ≤ i) && decide (i ≤ hi)
  | _ => false
def lcmF (b y : Int) : Int := (b * y).fdiv (Int.gcd b y)
theorem lcmF_eq {b y : Int} (hb : 0 < b) (hy : 0 < y) : lcmF b y = (Nat.lcm b.natAbs y.natAbs : Nat) := by
  obtain ⟨m, rfl⟩ : ∃ m : Nat, b = m := ⟨b.toNat, by omega⟩
  obtain ⟨k, rfl⟩ : ∃ k : Nat, y = k := ⟨y.toNat, by omega⟩
  unfold lcmF Nat.lcm
  rw [Int.gcd_natCast_natCast, Int.natAbs_natCast, Int.natAbs_natCast, Int.fdiv_eq_ediv_of_nonneg _ (Int.natCast_nonneg _)]
  push_cast
  rfl
theorem lcmF_pos {b y : Int} (hb : 0 < b) (hy : 0 < y) : 0 < lcmF b y := by
  rw [lcmF_eq hb hy]
  have := Nat.lcm_pos (m := b.natAbs) (n := y.natAbs) (by omega) (by omega)
  omega
theorem lcmF_dvd {b y : Int} (hb : 0 < b) (hy : 0 < y) : b ∣ lcmF b y ∧ y ∣ lcmF b y := by
  rw [lcmF_eq hb hy]
  refine ⟨?_, ?_⟩
  · rw [← Int.natAbs_dvd_natAbs, Int.natAbs_natCast]; exact Nat.dvd_lcm_left _ _
  · rw [← Int.natAbs_dvd_natAbs, Int.natAbs_natCast]; exact Nat.dvd_lcm_right _ _
theorem lcmF_least {b y z : Int} (hb : 0 < b) (hy : 0 < y) (h1 : b ∣ z) (h2 : y ∣ z) : lcmF b y ∣ z := by
  rw [lcmF_eq hb hy, ← Int.natAbs_dvd_natAbs, Int.natAbs_natCast]
  exact Nat.lcm_dvd (Int.natAbs_dvd_natAbs.mpr h1) (Int.natAbs_dvd_natAbs.mpr h2)
theorem lcmF_le {b y : Int} (hb : 0 < b) (hy : 0 < y) : lcmF b y ≤ b * y := by
  have h : lcmF b y ∣ b * y := lcmF_least hb hy (Int.dvd_mul_right b y) (Int.dvd_mul_left b y)
  exact Int.le_of_dvd (Int.mul_pos hb hy) h
def lcmL (ps : List (Int × Int)) (b : Int) : Int := ps.foldl (fun b p => lcmF b p.2) b
theorem lcmL_all : ∀ (ps : List (Int × Int)) (b : Int) (k m : Nat), 0 < b → (∀ p ∈ ps, 0 < p.2 ∧ p.2.natAbs < 2 ^ k) → b.natAbs < 2 ^ m →
    0 < lcmL ps b ∧ b ∣ lcmL ps b ∧ (∀ p ∈ ps, p.2 ∣ lcmL ps b) ∧ (∀ z, b ∣ z → (∀ p ∈ ps, p.2 ∣ z) → lcmL ps b ∣ z) ∧ (lcmL ps b).natAbs < 2 ^ (m + k * ps.length)
  | [], b, k, m, hb, _, hm => ⟨hb, Int.dvd_refl _, fun _ h => (by cases h), fun z h _ => h, by simpa [lcmL] using hm⟩
  | p :: ps, b, k, m, hb, hp, hm => by
    have hy := hp p (List.mem_cons_self ..)
    have l1 := lcmF_le hb hy.1
    have l2 := lcmF_pos hb hy.1
    have l3 := mul_lt hm hy.2
    obtain ⟨a1, a2, a3, a4, a5⟩ := lcmL_all ps (lcmF b p.2) k (m + k) l2 (fun q hq => hp q (List.mem_cons_of_mem _ hq)) (by
      have : (lcmF b p.2).natAbs ≤ (b * p.2).natAbs := by omega
      omega)
    obtain ⟨d1, d2⟩ := lcmF_dvd hb hy.1
    refine ⟨a1, Int.dvd_trans d1 a2, fun q hq => ?_, fun z h1 h2 => ?_, ?_⟩
    · rcases List.mem_cons.mp hq with rfl | hq
      · exact Int.dvd_trans d2 a2
      · exact a3 q hq
    · exact a4 z (lcmF_least hb hy.1 h1 (h2 p (List.mem_cons_self ..))) fun q hq => h2 q (List.mem_cons_of_mem _ hq)
    · rw [List.length_cons, Nat.mul_add, Nat.mul_one, show m + (k * ps.length + k) = m + k + k * ps.length by omega]
      exact a5
def overI (ps : List (Int × Int)) (b : Int) : List Int := ps.map fun p => p.1 * b.fdiv p.2
structure Rats (k : Nat) (ps : List (Int × Int)) : Prop where
  lo : 1 ≤ ps.length
  hi : ps.length ≤ 12
  rt : ∀ p ∈ ps, IsR p.1 p.2
  bd : ∀ p ∈ ps, p.1.natAbs < 2 ^ k ∧ p.2.natAbs < 2 ^ k
def ratV (p : Int × Int) : Val := .tup [.int p.1, .int p.2]
def botL (ps : List (Int × Int)) : Int := lcmL ps 1
theorem Rats.all {k : Nat} {ps : List (Int × Int)} (h : Rats k ps) : 0 < lcmL ps 1 ∧ 1 ∣ lcmL ps 1 ∧ (∀ p ∈ ps, p.2 ∣ lcmL ps 1) ∧ (∀ z, 1 ∣ z → (∀ p ∈ ps, p.2 ∣ z) → lcmL ps 1 ∣ z) ∧ (lcmL ps 1).natAbs < 2 ^ (1 + k * ps.length) := lcmL_all ps 1 k 1 (by decide) (fun p hp => ⟨(h.rt p hp).pos, (h.bd p hp).2⟩) (by decide)
def seqI (S : Store) : Val → Option (List Val)
  | .tup xs => some xs
  | .lst xs => some xs
  | .ref l => (match S[l]? with
    | some (.lst xs) => some xs
    | _ => none)
  | _ => none
def goodL (t : Val → Bool) (xs : List Val) : Bool := decide (1 ≤ xs.length) && decide (xs.length ≤ 12) && xs.all t
structure cRowOf (k : Nat) (f : List Val → Store → Res Val) : Prop where
  bad : ∀ S v, Okv S v → (∀ xs, seqI S v = some xs → Okvs S xs ∧ goodL isRat xs = false) → f [v] S = .exc k [v] S
  ok : ∀ S v ps, seqI S v = some (ps.map ratV) → Rats 120 ps → f [v] S = .ok (rowV (overI ps (botL ps)) (botL ps)) S
section
variable {P : Pg} {fu d : Nat}
def unitL (m j : Nat) : List Int := List.replicate j 0 ++ [1] ++ List.replicate (m - 1 - j) 0
structure cUnit (k : Nat) (f : List Val → Store → Res Val) : Prop where
  bad1 : ∀ S u v, Okv S u → isWh 1 12 u = false → f [u, v] S = .exc k [u] S
  bad2 : ∀ S (m : Nat) v, 1 ≤ m → m ≤ 12 → Okv S v → isWh 0 (m - 1) v = false → f [.int m, v] S = .exc k [v] S
  ok : ∀ S (m j : Nat), m ≤ 12 → j < m → f [.int m, .int j] S = .ok (rowV (unitL m j) 1) S
def ratsOf (ns : List Int) (b : Int) : List Val := ns.map fun x => lowV x b
structure cRowRats (k : Nat) (f : List Val → Store → Res Val) : Prop where
  bad : ∀ S v, Okv S v → isRow v = false → f [v] S = .exc k [v] S
  ok : ∀ S ns b, IsRow ns b → Bdd 8000 ns b → f [rowV ns b] S = .ok (.ref S.length) (S ++ [.lst (ratsOf ns b)])
end
end GW
set_option exponentiation.threshold 20000
/-! Core 52: what is refused is told back, though it is changed meanwhile. -/
namespace GW
open PySem
-- np nn = 5 7
theorem mth_pop {S : Store} {m : Nat} {zs : List Val} {y : Val} (h : S[m]? = some (.lst (zs ++ [y]))) : mthV .pop (.ref m) [] S = .ok y (S.set m (.lst zs)) := by
  unfold mthV lstAt
  rw [if_pos (show Mth.pop.isL = true from rfl)]
  dsimp only
  rw [h]
  dsimp only
  unfold mthL
  have : (zs ++ [y])[(zs ++ [y]).length - 1]? = some y := by simp
  rw [this]
  dsimp only
  unfold wrL
  rw [List.dropLast_concat]
def more : Val := .str "more"
structure Due (S : Store) (v : Val) : Prop where
  sh : Sh S 11 7000 v
  ls : isiE S v ["list"] = some false ∨ ∃ m zs, v = .ref m ∧ S[m]? = some (.lst zs) ∧ zs.length < 900 ∧ Sh (S.set m (.lst (zs ++ [more]))) 11 7000 (.ref m)
theorem set_back {S : Store} {m : Nat} {zs : List Val} {o : Ob} (h : S[m]? = some (.lst zs)) : (S.set m o).set m (.lst zs) = S := by
  rw [List.set_set]
  have := (List.getElem?_eq_some_iff.mp h).2
  rw [← this, List.set_getElem_self]
theorem isi_ref {S : Store} {m : Nat} {zs : List Val} (h : S[m]? = some (.lst zs)) : isiE S (.ref m) ["list"] = some true := by
  unfold isiE tyN
  dsimp only
  rw [h]
  rfl
theorem isi_list {S : Store} {v : Val} (ho : Okv S v) (h : isLst v = false) : isiE S v ["list"] = some false ∨ ∃ m zs, v = .ref m ∧ S[m]? = some (.lst zs) := by
  cases v with
  | lst _ => cases h
  | ref m =>
    obtain ⟨o, e⟩ := ho
    cases o with
    | lst zs => exact .inr ⟨m, zs, rfl, e⟩
    | dct ks vs =>
      refine .inl ?_
      unfold isiE tyN
      dsimp only
      rw [e]
      rfl
  | scr _ => exact ho.elim
  | fn _ => exact ho.elim
  | exc _ _ => exact ho.elim
  | _ => exact .inl rfl
theorem sh_up {S : Store} : ∀ {k w : Nat} {v : Val}, Lf S k v → cnt v ≤ w → k ≤ 11 → Sh S 11 w v := fun h hc hk => ((h.le hk).sh).le hc
theorem allL_free {S T : Store} {k : Nat} (h : ∀ v, Lf S k v → cnt v < 190 → Lf T k v) : ∀ {xs : List Val}, AllL (Lf S k) xs → cnts xs < 190 → AllL (Lf T k) xs
  | [], _, _ => trivial
  | x :: xs, q, hc => by
    simp only [cnts] at hc
    exact ⟨h x q.1 (by omega), allL_free h q.2 (by omega)⟩
theorem Lf.free {S T : Store} : ∀ {k : Nat} {v : Val}, Lf S k v → cnt v < 190 → Lf T k v
  | 0, _, h, _ => by unfold Lf at h; exact h.elim
  | k + 1, v, h, hc => by
    have ih := fun v => Lf.free (S := S) (T := T) (k := k) (v := v)
    cases v with
    | tup xs => exact allL_free ih h hc
    | lst xs => exact allL_free ih h hc
    | ref m => exact absurd hc (by simp [cnt])
    | non => trivial
    | bl b => trivial
    | int i => exact h
    | str z => exact h
    | scr _ => exact h
    | fn _ => exact h
    | exc _ _ => exact h
theorem allL_free1 {S T : Store} {k : Nat} : ∀ {xs : List Val}, AllL (Lf S k) xs → cnts xs ≤ 190 → AllL (Lf T k) xs
  | [], _, _ => trivial
  | x :: xs, q, hc => by
    simp only [cnts] at hc
    exact ⟨q.1.free (by omega), allL_free1 q.2 (by omega)⟩
theorem Odd.due {S : Store} {v : Val} (h : Odd S v) (hl : isLst v = false) : Due S v := by
  refine ⟨sh_up h.lf (by have := h.cn; omega) (by decide), ?_⟩
  rcases isi_list h.ok hl with e | ⟨m, zs, rfl, e⟩
  · exact .inl e
  · refine .inr ⟨m, zs, rfl, e, ?_⟩
    rcases h.lf with h1 | ⟨zs', e', h1, h2, h3⟩
    · rw [e] at h1; cases h1
    · rw [e] at e'
      cases e'
      have hm := (List.getElem?_eq_some_iff.mp e).1
      have h4 : AllL (Lf (S.set m (.lst (zs ++ [more]))) 5) (zs ++ [more]) := allL_app (allL_free1 h1 h2) ⟨⟨by decide, by decide⟩, trivial⟩
      refine ⟨by omega, ?_⟩
      have h5 := shs_cnt (S := S.set m (.lst (zs ++ [more]))) (k := 10) (fun v h => h.sh) (zs ++ [more]) (AllL.mono (fun v h => h.le (by decide)) h4)
      have h6 := sh_ref (k := 10) (List.getElem?_set_self hm) h5
      refine h6.le ?_
      rw [cnts_app]
      simp only [more, cnts, cnt]
      omega
end GW
set_option exponentiation.threshold 20000
/-! Core 53: tables drawn, tables looked at. -/
namespace GW
open PySem
theorem Dr.put {S T : Store} {l r : Nat} {o : Ob} (D : Dr l S T) (h : S.length ≤ r) (hl : r ≠ l) : Dr l S (T.set r o) := by
  obtain ⟨p, k⟩ := D
  refine ⟨?_, fun m o' hm e => ?_⟩
  · obtain ⟨a, b, c, e, h0, h1⟩ := p
    exact ⟨a, b, c, by rw [List.getElem?_set_ne hl]; exact e, h0, h1⟩
  · have := (List.getElem?_eq_some_iff.mp e).1
    rw [List.getElem?_set_ne (by omega)]
    exact k m o' hm e
section
variable {P : Pg} {fu d : Nat}
end
end GW
set_option exponentiation.threshold 20000
/-! Core 54: tables looked at; tables shown alike. -/
namespace GW
open PySem
section
variable {P : Pg} {fu d : Nat}
end
/-! shown alike -/
end GW
set_option exponentiation.threshold 20000
/-! Core 55: tables flattened, whose rows stand in the store. -/
namespace GW
open PySem
def Hold (S : Store) (v : Val) (ns : List Int) : Prop := items S v = some (ns.map .int) ∧ live S [v] [ns.map .int]
theorem Nums.hold {v : Val} {ns : List Int} (h : Nums v ns) (S : Store) : Hold S v ns := ⟨h.items S, h.live S _⟩
theorem hold_ref {S : Store} {m : Nat} {ns : List Int} (e : S[m]? = some (.lst (ns.map .int))) : Hold S (.ref m) ns := ⟨by unfold items lstI; dsimp only; rw [e], fun p hp => by
  simp only [List.zip_cons_cons, List.zip_nil_right, List.mem_cons, List.not_mem_nil, or_false] at hp
  subst hp
  exact e⟩
abbrev rowsOf (ps : List (Val × List Int)) : List (List Int) := ps.map (·.2)
def cFlat : Ct := fun f => ∀ (S : Store) (v : Val) (ps : List (Val × List Int)) (b : Int), items S v = some (ps.map (·.1)) → live S [v] [ps.map (·.1)] → (∀ p ∈ ps, Hold S p.1 p.2) → ps.length < 900 → (∀ p ∈ ps, p.2.length < 900) → 0 < b → Bdd 9000 (rowsOf ps).flatten b → f [v, .int b] S = .ok (shortT (rowsOf ps) b) S
section
variable {P : Pg} {fu d : Nat}
end
end GW
set_option exponentiation.threshold 20000
/-! Core 56: what is no table. -/
namespace GW
open PySem
-- np nn = 3 12
-- np nn = 1 2
section
variable {P : Pg} {fu d : Nat}
end
end GW
set_option exponentiation.threshold 20000
/-! Core 57: tables told. -/
namespace GW
open PySem
-- np nn = 1 4
-- np nn = 1 2
-- np nn = 1 1
-- np nn = 1 3
-- np nn = 1 5
-- np nn = 2 4
-- np nn = 3 5
structure cMade (k : Nat) (t : Nat → List (List Int)) (f : List Val → Store → Res Val) : Prop where
  bad : ∀ S v, Okv S v → isWh 1 12 v = false → f [v] S = .exc k [v] S
  ok : ∀ S (m : Nat), 1 ≤ m → m ≤ 12 → f [.int m] S = .ok (tabV (t m) 1) S
structure cTabRows (k : Nat) (f : List Val → Store → Res Val) : Prop where
  bad : ∀ S v, Okv S v → isTab v = false → f [v] S = .exc k [v] S
  ok : ∀ S rs b w, IsTab rs b w → Bdd 8000 rs.flatten b → f [tabV rs b] S = .ok (.ref S.length) (S ++ [.lst (rs.map fun r => shortV r b)])
section
variable {P : Pg} {fu d : Nat}
end
end GW
namespace GW
open PySem
/-! rows over the least bottom -/
def rowP (p : List Int × Int) : Val := rowV p.1 p.2
def bots (ps : List (List Int × Int)) : List (Int × Int) := ps.map fun p => (1, p.2)
structure Rows (k : Nat) (ps : List (List Int × Int)) (w : Nat) : Prop where
  lo : 1 ≤ ps.length
  hi : ps.length ≤ 12
  rt : ∀ p ∈ ps, IsRow p.1 p.2
  wd : ∀ p ∈ ps, p.1.length = w
  bd : ∀ p ∈ ps, Bdd k p.1 p.2
def botT (ps : List (List Int × Int)) : Int := lcmL (bots ps) 1
theorem Rows.all {k w : Nat} {ps : List (List Int × Int)} (h : Rows k ps w) : 0 < botT ps ∧ (∀ p ∈ ps, p.2 ∣ botT ps) ∧ (botT ps).natAbs < 2 ^ (1 + k * ps.length) := by
  obtain ⟨a1, _, a3, _, a5⟩ := lcmL_all (bots ps) 1 k 1 (by decide) (fun q hq => by
    obtain ⟨p, hp, rfl⟩ := List.mem_map.mp hq
    exact ⟨(h.rt p hp).pos, (h.bd p hp).b⟩) (by decide)
  refine ⟨a1, fun p hp => a3 (1, p.2) (List.mem_map.mpr ⟨p, hp, rfl⟩), ?_⟩
  have hl : (bots ps).length = ps.length := by simp [bots]
  rw [hl] at a5
  exact a5
end GW
set_option exponentiation.threshold 20000
/-! Core 58: tables told: the least bottom of rows. -/
namespace GW
open PySem
section
variable {P : Pg} {fu d : Nat}
theorem Rows.step {ps : List (List Int × Int)} {w : Nat} (q : Rows 110 ps w) (m : Nat) (hm : m ≤ ps.length) : 0 < lcmL ((bots ps).take m) 1 ∧ (lcmL ((bots ps).take m) 1).natAbs < 2 ^ 1400 := by
  obtain ⟨b1, _, _, _, b5⟩ := lcmL_all ((bots ps).take m) 1 110 1 (by decide) (fun z hz => by
    obtain ⟨p, hp, rfl⟩ := List.mem_map.mp (List.mem_of_mem_take hz)
    exact ⟨(q.rt p hp).pos, (q.bd p hp).b⟩) (by decide)
  refine ⟨b1, pow_up b5 ?_⟩
  have l2 := q.hi
  rw [List.length_take]
  have : min m (bots ps).length ≤ 12 := by omega
  have := Nat.mul_le_mul_left 110 this
  omega
end
end GW
set_option exponentiation.threshold 20000
/-! Core 59: a table of rows. -/
namespace GW
open PySem
section
variable {P : Pg} {fu d : Nat}
end
end GW
set_option exponentiation.threshold 20000
/-! Core 60: what is refused by a table of rows. -/
namespace GW
open PySem
section
variable {P : Pg} {fu d : Nat}
end
end GW
set_option exponentiation.threshold 20000
/-! Core 61: sums, rows of whole numbers, combinations. -/
namespace GW
def sumN : Nat → (Nat → Int) → Int
  | 0, _ => 0
  | n + 1, f => sumN n f + f n
theorem sumN_congr {n : Nat} {f g : Nat → Int} (h : ∀ i, i < n → f i = g i) : sumN n f = sumN n g := by
  induction n with
  | zero => rfl
  | succ n ih => simp only [sumN]; rw [ih fun i hi => h i (by omega), h n (by omega)]
theorem sumN_zero {n : Nat} {f : Nat → Int} (h : ∀ i, i < n → f i = 0) : sumN n f = 0 := by
  induction n with
  | zero => rfl
  | succ n ih => simp only [sumN]; rw [ih fun i hi => h i (by omega), h n (by omega)]; rfl
theorem sumN_add {n : Nat} {f g : Nat → Int} : sumN n (fun i => f i + g i) = sumN n f + sumN n g := by
  induction n with
  | zero => rfl
  | succ n ih => simp only [sumN]; rw [ih]; omega
theorem sumN_sub {n : Nat} {f g : Nat → Int} : sumN n (fun i => f i - g i) = sumN n f - sumN n g := by
  induction n with
  | zero => rfl
  | succ n ih => simp only [sumN]; rw [ih]; omega
theorem sumN_mul {n : Nat} {f : Nat → Int} (c : Int) : sumN n (fun i => c * f i) = c * sumN n f := by
  induction n with
  | zero => simp [sumN]
  | succ n ih => simp only [sumN]; rw [ih, Int.mul_add]
theorem sumN_mul' {n : Nat} {f : Nat → Int} (c : Int) : sumN n (fun i => f i * c) = sumN n f * c := by
  rw [Int.mul_comm, ← sumN_mul]
  exact sumN_congr fun i _ => Int.mul_comm _ _
theorem sumN_swap {n m : Nat} {f : Nat → Nat → Int} : sumN n (fun i => sumN m fun j => f i j) = sumN m fun j => sumN n fun i => f i j := by
  induction n with
  | zero => simp only [sumN]; exact (sumN_zero fun _ _ => rfl).symm
  | succ n ih => simp only [sumN]; rw [ih, ← sumN_add]
theorem sumN_one {n k : Nat} {f : Nat → Int} (hk : k < n) (h : ∀ i, i < n → i ≠ k → f i = 0) : sumN n f = f k := by
  induction n with
  | zero => omega
  | succ n ih =>
    simp only [sumN]
    by_cases e : k = n
    · subst e
      rw [sumN_zero fun i hi => h i (by omega) (by omega)]; omega
    · rw [ih (by omega) fun i hi ne => h i (by omega) ne, h n (by omega) (Ne.symm e)]; omega
theorem sumN_abs {n : Nat} {f : Nat → Int} {B : Nat} (h : ∀ i, i < n → (f i).natAbs ≤ B) : (sumN n f).natAbs ≤ n * B := by
  induction n with
  | zero => simp [sumN]
  | succ n ih =>
    simp only [sumN]
    have := ih fun i hi => h i (by omega)
    have := h n (by omega)
    rw [Nat.succ_mul]
    omega
def nth (r : List Int) (i : Nat) : Int := r.getD i 0
theorem nth_nil (i : Nat) : nth [] i = 0 := by simp [nth]
theorem nth_0 (a : Int) (r : List Int) : nth (a :: r) 0 = a := rfl
theorem nth_s (a : Int) (r : List Int) (i : Nat) : nth (a :: r) (i + 1) = nth r i := by simp [nth]
theorem nth_get {r : List Int} {i : Nat} (h : i < r.length) : r[i]? = some (nth r i) := by
  unfold nth; rw [List.getD_eq_getElem?_getD, List.getElem?_eq_getElem h]; rfl
theorem nth_mem {r : List Int} {i : Nat} (h : i < r.length) : nth r i ∈ r := List.mem_of_getElem? (nth_get h)
theorem nth_ge {r : List Int} {i : Nat} (h : r.length ≤ i) : nth r i = 0 := by
  unfold nth; rw [List.getD_eq_getElem?_getD, List.getElem?_eq_none h]; rfl
theorem mem_nth {r : List Int} {x : Int} (h : x ∈ r) : ∃ i, i < r.length ∧ nth r i = x := by
  obtain ⟨i, hi, e⟩ := List.getElem_of_mem h
  refine ⟨i, hi, ?_⟩
  unfold nth; rw [List.getD_eq_getElem?_getD, List.getElem?_eq_getElem hi]; exact e
theorem nth_of_get {r : List Int} {i : Nat} {x : Int} (h : r[i]? = some x) : nth r i = x := by
  unfold nth; rw [List.getD_eq_getElem?_getD, h]; rfl
theorem nth_ext {r s : List Int} (hl : r.length = s.length) (h : ∀ i, i < r.length → nth r i = nth s i) : r = s := by
  refine List.ext_getElem? fun i => ?_
  by_cases hi : i < r.length
  · rw [nth_get hi, nth_get (by omega), h i hi]
  · rw [List.getElem?_eq_none (by omega), List.getElem?_eq_none (by omega)]
theorem nth_map {r : List Int} {f : Int → Int} (h : f 0 = 0) (i : Nat) : nth (r.map f) i = f (nth r i) := by
  by_cases hi : i < r.length
  · exact nth_of_get (by rw [List.getElem?_map, nth_get hi]; rfl)
  · rw [nth_ge (by rw [List.length_map]; omega), nth_ge (by omega), h]
theorem nth_zip {r s : List Int} {f : Int → Int → Int} (hl : r.length = s.length) (h : f 0 0 = 0) (i : Nat) : nth (List.zipWith f r s) i = f (nth r i) (nth s i) := by
  by_cases hi : i < r.length
  · refine nth_of_get ?_
    rw [List.getElem?_zipWith, nth_get hi, nth_get (show i < s.length by omega)]
  · rw [nth_ge (by rw [List.length_zipWith]; omega), nth_ge (by omega), nth_ge (by omega), h]
def mkR (w : Nat) (f : Nat → Int) : List Int := (List.range w).map f
theorem mkR_len (w : Nat) (f : Nat → Int) : (mkR w f).length = w := by simp [mkR]
theorem nth_mkR {w : Nat} {f : Nat → Int} {i : Nat} (h : i < w) : nth (mkR w f) i = f i := nth_of_get (by
  unfold mkR; rw [List.getElem?_map, List.getElem?_range h]; rfl)
def dot (w : Nat) (r x : List Int) : Int := sumN w fun i => nth r i * nth x i
theorem dot_zip : ∀ (r x : List Int), r.length = x.length → dot r.length r x = (List.zipWith (· * ·) r x).sum := by
  intro r x
  have key : ∀ (r x : List Int) , sumN r.length (fun i => nth r i * nth x i) = (List.zipWith (· * ·) r x).sum := by
    intro r
    induction r with
    | nil => intro x; rfl
    | cons a r ih =>
      intro x
      have sh : ∀ (n : Nat) (f : Nat → Int), sumN (n + 1) f = f 0 + sumN n fun i => f (i + 1) := by
        intro n f
        induction n with
        | zero => simp [sumN]
        | succ n ih => rw [sumN, ih]; simp only [sumN]; omega
      cases x with
      | nil => simp only [List.zipWith_nil_right, List.sum_nil]; exact sumN_zero fun i _ => by rw [nth_nil, Int.mul_zero]
      | cons b x =>
        rw [List.length_cons, sh]
        simp only [nth_0, nth_s, List.zipWith_cons_cons, List.sum_cons]
        rw [ih]
  intro _
  exact key r x
end GW
set_option exponentiation.threshold 20000
/-! Core 62: rows lessened and cleared. -/
namespace GW
def byOf (ns : List Int) : Int := max (gcdL ns 0) 1
def less (ns : List Int) : List Int := ns.map fun x => x.fdiv (byOf ns)
theorem byOf_pos (ns : List Int) : 0 < byOf ns := by unfold byOf; omega
theorem byOf_dvd {ns : List Int} {x : Int} (h : x ∈ ns) : byOf ns ∣ x := by
  unfold byOf
  have h0 := gcdL_nn ns 0 (Int.le_refl _)
  have h1 := (gcdL_dvd ns 0).2 x h
  rcases Int.lt_or_eq_of_le h0 with h2 | h2
  · rw [show max (gcdL ns 0) 1 = gcdL ns 0 by omega]; exact h1
  · rw [← h2]; exact Int.one_dvd _
theorem less_len (ns : List Int) : (less ns).length = ns.length := by simp [less]
theorem nth_less (ns : List Int) (i : Nat) : nth (less ns) i * byOf ns = nth ns i := by
  unfold less
  rw [nth_map (f := fun x => x.fdiv (byOf ns)) (Int.zero_fdiv _)]
  by_cases h : i < ns.length
  · exact Int.fdiv_mul_cancel (byOf_dvd (nth_mem h))
  · rw [nth_ge (by omega), Int.zero_fdiv, Int.zero_mul]
def Prim (r : List Int) : Prop := (∀ i, nth r i = 0) ∨ gcdL r 0 = 1
theorem less_prim (ns : List Int) : Prim (less ns) := by
  have h0 := gcdL_nn ns 0 (Int.le_refl _)
  rcases Int.lt_or_eq_of_le h0 with h2 | h2
  · refine .inr ?_
    have e : byOf ns = gcdL ns 0 := by unfold byOf; omega
    have h3 := gcdL_mul (less ns) 0 (byOf ns) (Int.le_of_lt (byOf_pos ns)) (Int.le_refl _)
    have e2 : (less ns).map (· * byOf ns) = ns := nth_ext (by simp [less]) fun i _ => by rw [nth_map (f := fun x => x * byOf ns) (Int.zero_mul _)]; exact nth_less ns i
    rw [e2, Int.zero_mul, ← e] at h3
    have h4 : 1 * byOf ns = gcdL (less ns) 0 * byOf ns := by rw [Int.one_mul]; exact h3
    have := byOf_pos ns
    exact (Int.eq_of_mul_eq_mul_right (by omega) h4).symm
  · refine .inl fun i => ?_
    have hz : ∀ i, nth ns i = 0 := fun i => by
      by_cases h : i < ns.length
      · have := (gcdL_dvd ns 0).2 _ (nth_mem h)
        rw [← h2] at this
        exact Int.zero_dvd.mp this
      · exact nth_ge (by omega)
    have := nth_less ns i
    rw [hz] at this
    rcases Int.mul_eq_zero.mp this with h | h
    · exact h
    · have := byOf_pos ns; omega
theorem abs_le_mul {a l : Int} (h : l ≠ 0) : a.natAbs ≤ (a * l).natAbs := by
  rw [Int.natAbs_mul]
  exact Nat.le_mul_of_pos_right _ (by omega)
def mix (at' : Nat) (r p : List Int) : List Int := List.zipWith (fun a b => a * nth p at' - b * nth r at') r p
def clr (at' : Nat) (r p : List Int) : List Int := less (mix at' r p)
theorem nth_mix {at' : Nat} {r p : List Int} (h : r.length = p.length) (i : Nat) : nth (mix at' r p) i = nth r i * nth p at' - nth p i * nth r at' := by
  unfold mix
  rw [nth_zip h (by simp)]
theorem mix_len {at' : Nat} {r p : List Int} (h : r.length = p.length) : (mix at' r p).length = p.length := by unfold mix; rw [List.length_zipWith]; omega
theorem clr_len {at' : Nat} {r p : List Int} (h : r.length = p.length) : (clr at' r p).length = p.length := by unfold clr; rw [less_len, mix_len h]
theorem nth_clr {at' : Nat} {r p : List Int} (h : r.length = p.length) (i : Nat) : nth (clr at' r p) i * byOf (mix at' r p) = nth r i * nth p at' - nth p i * nth r at' := by
  unfold clr
  rw [nth_less, nth_mix h]
theorem clr_zero {at' : Nat} {r p : List Int} (h : r.length = p.length) {i : Nat} (e : nth r i * nth p at' - nth p i * nth r at' = 0) : nth (clr at' r p) i = 0 := by
  have := nth_clr (at' := at') h i
  rw [e] at this
  rcases Int.mul_eq_zero.mp this with h | h
  · exact h
  · have := byOf_pos (mix at' r p); omega
theorem dot_less (w : Nat) (r x : List Int) : dot w (less r) x * byOf r = dot w r x := by
  unfold dot
  rw [← sumN_mul']
  refine sumN_congr fun i _ => ?_
  rw [Int.mul_right_comm, nth_less]
theorem dot_less0 {w : Nat} {r x : List Int} : dot w (less r) x = 0 ↔ dot w r x = 0 := by
  have := byOf_pos r
  have e := dot_less w r x
  constructor
  · intro h; rw [← e, h, Int.zero_mul]
  · intro h
    rw [h] at e
    rcases Int.mul_eq_zero.mp e with h | h
    · exact h
    · omega
theorem dot_mix {w at' : Nat} {r p x : List Int} (h : r.length = p.length) : dot w (mix at' r p) x = dot w r x * nth p at' - dot w p x * nth r at' := by
  unfold dot
  rw [← sumN_mul', ← sumN_mul', ← sumN_sub]
  refine sumN_congr fun i _ => ?_
  rw [nth_mix h, Int.sub_mul, Int.mul_right_comm, Int.mul_right_comm (nth p i)]
theorem dot_clr0 {w at' : Nat} {r p x : List Int} (h : r.length = p.length) (hp : nth p at' ≠ 0) (hx : dot w p x = 0) : dot w (clr at' r p) x = 0 ↔ dot w r x = 0 := by
  unfold clr
  rw [dot_less0, dot_mix h, hx, Int.zero_mul, Int.sub_zero]
  constructor
  · intro h
    rcases Int.mul_eq_zero.mp h with h | h
    · exact h
    · exact absurd h hp
  · intro h; rw [h, Int.zero_mul]
end GW
set_option exponentiation.threshold 20000
/-! Core 63: small solutions by counting. -/
namespace GW
end GW
set_option exponentiation.threshold 20000
/-! Core 64: rows swept. -/
namespace GW
abbrev Swp := List (List Int) × List Nat × List (List Int)
def swp (at' : Nat) (s : Swp) : Swp := match s.2.2.findIdx? (fun r => decide (nth r at' ≠ 0)) with
  | none => s
  | some k => let p := s.2.2.getD k []; (s.1.map (clr at' · p) ++ [p], s.2.1 ++ [at'], (s.2.2.eraseIdx k).map (clr at' · p))
def sweep (rows : List (List Int)) : Nat → Swp
  | 0 => ([], [], rows.map less)
  | m + 1 => swp m (sweep rows m)
def Ker (w : Nat) (rs : List (List Int)) (x : List Int) : Prop := ∀ r ∈ rs, dot w r x = 0
structure Sw (w m : Nat) (orig d : List (List Int)) (ps : List Nat) (l : List (List Int)) : Prop where
  dw : ∀ r ∈ d, r.length = w
  lw : ∀ r ∈ l, r.length = w
  ker : ∀ x, Ker w orig x ↔ Ker w d x ∧ Ker w l x
  len : d.length = ps.length
  tot : d.length + l.length = orig.length
  lt : ∀ p ∈ ps, p < m
  inc : ps.Pairwise (· < ·)
  piv : ∀ (k : Nat) (r : List Int) (p : Nat), d[k]? = some r → ps[k]? = some p → nth r p ≠ 0 ∧ (∀ i, i < p → nth r i = 0) ∧ ∀ (j q : Nat), ps[j]? = some q → j ≠ k → nth r q = 0
  lz : ∀ r ∈ l, ∀ i, i < m → nth r i = 0
  dp : ∀ r ∈ d, Prim r
  lp : ∀ r ∈ l, Prim r
theorem sw0 {w : Nat} {rows : List (List Int)} (hw : ∀ r ∈ rows, r.length = w) : Sw w 0 rows [] [] (rows.map less) where
  dw := fun r h => by cases h
  lw := fun r h => by obtain ⟨s, hs, rfl⟩ := List.mem_map.mp h; rw [less_len]; exact hw s hs
  ker := fun x => by
    constructor
    · intro h
      refine ⟨fun r h => (nomatch h), fun r hr => ?_⟩
      obtain ⟨s, hs, rfl⟩ := List.mem_map.mp hr
      exact dot_less0.mpr (h s hs)
    · rintro ⟨_, h⟩ r hr
      exact dot_less0.mp (h _ (List.mem_map_of_mem hr))
  len := rfl
  tot := by simp
  lt := fun p h => by cases h
  inc := List.Pairwise.nil
  piv := fun k r p h => by simp at h
  lz := fun r _ i h => by omega
  dp := fun r h => by cases h
  lp := fun r h => by obtain ⟨s, hs, rfl⟩ := List.mem_map.mp h; exact less_prim s
theorem find_some {l : List (List Int)} {m k : Nat} (h : l.findIdx? (fun r => decide (nth r m ≠ 0)) = some k) : ∃ p, l[k]? = some p ∧ l.getD k [] = p ∧ nth p m ≠ 0 ∧ p ∈ l := by
  obtain ⟨hk, h1, _⟩ := List.findIdx?_eq_some_iff_getElem.mp h
  refine ⟨l[k], List.getElem?_eq_getElem hk, ?_, by simpa using h1, List.getElem_mem hk⟩
  rw [List.getD_eq_getElem?_getD, List.getElem?_eq_getElem hk]; rfl
theorem find_none {l : List (List Int)} {m : Nat} (h : l.findIdx? (fun r => decide (nth r m ≠ 0)) = none) : ∀ r ∈ l, nth r m = 0 := fun r hr => by
  have := List.findIdx?_eq_none_iff.mp h r hr
  simpa using this
theorem perm_erase {α : Type} : ∀ {l : List α} {k : Nat} {p : α}, l[k]? = some p → (p :: l.eraseIdx k).Perm l
  | [], k, p, h => by simp at h
  | a :: l, 0, p, h => by simp at h; subst h; simp
  | a :: l, k + 1, p, h => by
    have := perm_erase (l := l) (k := k) (p := p) (by simpa using h)
    simp only [List.eraseIdx_cons_succ]
    exact (List.Perm.swap a p _).trans (this.cons a)
theorem mem_erase {α : Type} {l : List α} {k : Nat} {p r : α} (hk : l[k]? = some p) (hr : r ∈ l) : r = p ∨ r ∈ l.eraseIdx k := List.mem_cons.mp ((perm_erase hk).mem_iff.mpr hr)
theorem Sw.step {w m : Nat} {orig d : List (List Int)} {ps : List Nat} {l : List (List Int)} (h : Sw w m orig d ps l) : Sw w (m + 1) orig (swp m (d, ps, l)).1 (swp m (d, ps, l)).2.1 (swp m (d, ps, l)).2.2 := by
  unfold swp
  dsimp only
  split
  · rename_i hn
    have hz := find_none hn
    refine { dw := h.dw, lw := h.lw, ker := h.ker, len := h.len, tot := h.tot, lt := fun p hp => by have := h.lt p hp; omega, inc := h.inc, piv := h.piv, dp := h.dp, lp := h.lp, lz := fun r hr i hi => ?_ }
    · by_cases e : i = m
      · rw [e]; exact hz r hr
      · exact h.lz r hr i (by omega)
  · rename_i k hk
    obtain ⟨p, hkp, hg, hp0, hpm⟩ := find_some hk
    rw [hg]
    have hpw := h.lw p hpm
    have hsub : ∀ r ∈ l.eraseIdx k, r ∈ l := fun r hr => List.mem_of_mem_eraseIdx hr
    have hpz : ∀ i, i < m → nth p i = 0 := h.lz p hpm
    obtain ⟨hkl, _⟩ := List.getElem?_eq_some_iff.mp hkp
    refine { dw := ?_, lw := ?_, ker := ?_, len := ?_, tot := ?_, lt := ?_, inc := ?_, piv := ?_, lz := ?_, dp := ?_, lp := ?_ }
    · intro r hr
      rcases List.mem_append.mp hr with hr | hr
      · obtain ⟨s, hs, rfl⟩ := List.mem_map.mp hr
        rw [clr_len (by rw [h.dw s hs, hpw]), hpw]
      · rw [List.mem_singleton.mp hr]; exact hpw
    · intro r hr
      obtain ⟨s, hs, rfl⟩ := List.mem_map.mp hr
      rw [clr_len (by rw [h.lw s (hsub s hs), hpw]), hpw]
    · intro x
      rw [h.ker]
      constructor
      · rintro ⟨h1, h2⟩
        have hp := h2 p hpm
        refine ⟨fun r hr => ?_, fun r hr => ?_⟩
        · rcases List.mem_append.mp hr with hr | hr
          · obtain ⟨s, hs, rfl⟩ := List.mem_map.mp hr
            exact (dot_clr0 (by rw [h.dw s hs, hpw]) hp0 hp).mpr (h1 s hs)
          · rw [List.mem_singleton.mp hr]; exact hp
        · obtain ⟨s, hs, rfl⟩ := List.mem_map.mp hr
          exact (dot_clr0 (by rw [h.lw s (hsub s hs), hpw]) hp0 hp).mpr (h2 s (hsub s hs))
      · rintro ⟨h1, h2⟩
        have hp := h1 p (by simp)
        refine ⟨fun r hr => ?_, fun r hr => ?_⟩
        · exact (dot_clr0 (by rw [h.dw r hr, hpw]) hp0 hp).mp (h1 _ (List.mem_append_left _ (List.mem_map_of_mem hr)))
        · rcases mem_erase hkp hr with rfl | hr'
          · exact hp
          · exact (dot_clr0 (by rw [h.lw r hr, hpw]) hp0 hp).mp (h2 _ (List.mem_map_of_mem hr'))
    · simp [h.len]
    · have := h.tot
      simp only [List.length_append, List.length_map, List.length_cons, List.length_nil, List.length_eraseIdx]
      rw [if_pos hkl]; omega
    · intro q hq
      rcases List.mem_append.mp hq with hq | hq
      · have := h.lt q hq; omega
      · rw [List.mem_singleton.mp hq]; omega
    · refine List.pairwise_append.mpr ⟨h.inc, List.pairwise_singleton _ _, fun a ha b hb => ?_⟩
      rw [List.mem_singleton.mp hb]; exact h.lt a ha
    · intro j r q hr hq
      have hl := h.len
      by_cases hj : j < d.length
      · rw [List.getElem?_append_left (by rw [List.length_map]; exact hj), List.getElem?_map, Option.map_eq_some_iff] at hr
        obtain ⟨s, hs, rfl⟩ := hr
        rw [List.getElem?_append_left (by omega)] at hq
        obtain ⟨a1, a2, a3⟩ := h.piv j s q hs hq
        have hqm := h.lt q (List.mem_of_getElem? hq)
        have hsw : s.length = p.length := by rw [h.dw s (List.mem_of_getElem? hs), hpw]
        refine ⟨fun z => ?_, fun i hi => clr_zero hsw (by rw [a2 i hi, hpz i (by omega)]; simp), fun j' q' hj' ne => ?_⟩
        · have e := nth_clr (at' := m) hsw q
          rw [z, Int.zero_mul, hpz q hqm, Int.zero_mul, Int.sub_zero] at e
          rcases Int.mul_eq_zero.mp e.symm with e | e
          · exact a1 e
          · exact hp0 e
        · by_cases hj2 : j' < ps.length
          · rw [List.getElem?_append_left hj2] at hj'
            exact clr_zero hsw (by rw [a3 j' q' hj' ne, hpz q' (h.lt q' (List.mem_of_getElem? hj'))]; simp)
          · have := (List.getElem?_eq_some_iff.mp hj').1
            rw [List.getElem?_append_right (by omega)] at hj'
            simp only [List.length_append, List.length_cons, List.length_nil] at this
            rw [show j' - ps.length = 0 by omega] at hj'
            simp at hj'
            subst hj'
            exact clr_zero hsw (by rw [Int.mul_comm]; omega)
      · have h1 := (List.getElem?_eq_some_iff.mp hr).1
        simp only [List.length_append, List.length_map, List.length_cons, List.length_nil] at h1
        rw [List.getElem?_append_right (by rw [List.length_map]; omega)] at hr
        rw [List.getElem?_append_right (by omega)] at hq
        rw [List.length_map, show j - d.length = 0 by omega] at hr
        rw [show j - ps.length = 0 by omega] at hq
        simp at hr hq
        subst hr; subst hq
        refine ⟨hp0, hpz, fun j' q' hj' ne => ?_⟩
        have h2 := (List.getElem?_eq_some_iff.mp hj').1
        simp only [List.length_append, List.length_cons, List.length_nil] at h2
        rw [List.getElem?_append_left (by omega)] at hj'
        exact hpz q' (h.lt q' (List.mem_of_getElem? hj'))
    · intro r hr i hi
      obtain ⟨s, hs, rfl⟩ := List.mem_map.mp hr
      have hsw : s.length = p.length := by rw [h.lw s (hsub s hs), hpw]
      by_cases e : i = m
      · subst e; exact clr_zero hsw (by rw [Int.mul_comm]; omega)
      · exact clr_zero hsw (by rw [h.lz s (hsub s hs) i (by omega), hpz i (by omega)]; simp)
    · intro r hr
      rcases List.mem_append.mp hr with hr | hr
      · obtain ⟨s, hs, rfl⟩ := List.mem_map.mp hr
        exact less_prim _
      · rw [List.mem_singleton.mp hr]; exact h.lp p hpm
    · intro r hr
      obtain ⟨s, hs, rfl⟩ := List.mem_map.mp hr
      exact less_prim _
theorem sweep_sw {w : Nat} {rows : List (List Int)} (hw : ∀ r ∈ rows, r.length = w) : ∀ m, Sw w m rows (sweep rows m).1 (sweep rows m).2.1 (sweep rows m).2.2
  | 0 => sw0 hw
  | m + 1 => (sweep_sw hw m).step
end GW
set_option exponentiation.threshold 20000
/-! Core 65: of what swept rows are made; how great they are. -/
namespace GW
def cmb (n : Nat) (M : Nat → Nat → Int) (c : Nat → Int) (j : Nat) : Int := sumN n fun i => c i * M i j
theorem cmb_lin {n : Nat} {M : Nat → Nat → Int} {c e : Nat → Int} (a b : Int) (j : Nat) : cmb n M (fun i => a * c i - b * e i) j = a * cmb n M c j - b * cmb n M e j := by
  unfold cmb
  rw [← sumN_mul, ← sumN_mul, ← sumN_sub]
  exact sumN_congr fun i _ => by rw [Int.sub_mul, Int.mul_assoc, Int.mul_assoc]
theorem cmb_zero {n : Nat} {M : Nat → Nat → Int} {c : Nat → Int} (h : ∀ i, c i = 0) (j : Nat) : cmb n M c j = 0 := sumN_zero fun i _ => by rw [h i, Int.zero_mul]
structure Gh (n : Nat) (M : Nat → Nat → Int) (d : List (List Int)) (ps : List Nat) (l : List (List Int)) (P o : List Nat) : Prop where
  ol : o.length = l.length
  nd : (P ++ o).Nodup
  ob : ∀ i ∈ P ++ o, i < n
  pl : P.length = ps.length
  dc : ∀ r ∈ d, ∃ (s : Int) (c : Nat → Int), s ≠ 0 ∧ (∀ i, i ∉ P → c i = 0) ∧ ∀ j, s * nth r j = cmb n M c j
  lc : ∀ (k : Nat) (r : List Int) (q : Nat), l[k]? = some r → o[k]? = some q → ∃ (s : Int) (c : Nat → Int), s ≠ 0 ∧ c q ≠ 0 ∧ (∀ i, i ∉ P → i ≠ q → c i = 0) ∧ ∀ j, s * nth r j = cmb n M c j
  ind : ∀ y : Nat → Int, (∀ i, i ∉ P → y i = 0) → (∀ q ∈ ps, cmb n M y q = 0) → ∀ i, y i = 0
def matOf (rows : List (List Int)) (i j : Nat) : Int := nth (rows.getD i []) j
theorem gh0 (rows : List (List Int)) : Gh rows.length (matOf rows) [] [] (rows.map less) [] (List.range rows.length) where
  ol := by simp
  nd := by simpa using List.nodup_range
  ob := fun i h => by simpa using h
  pl := rfl
  dc := fun r h => (nomatch h)
  lc := fun k r q hr hq => by
    rw [List.getElem?_map, Option.map_eq_some_iff] at hr
    obtain ⟨s, hs, rfl⟩ := hr
    have hk := (List.getElem?_eq_some_iff.mp hs).1
    rw [List.getElem?_range hk] at hq
    cases hq
    refine ⟨byOf s, fun i => if i = k then 1 else 0, by have := byOf_pos s; omega, by simp, fun i _ ne => if_neg ne, fun j => ?_⟩
    rw [Int.mul_comm, nth_less]
    unfold cmb
    rw [sumN_one hk fun i _ ne => by show (if i = k then (1 : Int) else 0) * _ = 0; rw [if_neg ne, Int.zero_mul]]
    show _ = (if k = k then (1 : Int) else 0) * _
    rw [if_pos rfl, Int.one_mul]
    unfold matOf
    rw [List.getD_eq_getElem?_getD, hs]; rfl
  ind := fun y h _ i => h i (by simp)
theorem Gh.step {w m n : Nat} {M : Nat → Nat → Int} {orig d : List (List Int)} {ps : List Nat} {l : List (List Int)} {P o : List Nat} (hs : Sw w m orig d ps l) (h : Gh n M d ps l P o) : ∃ P' o', Gh n M (swp m (d, ps, l)).1 (swp m (d, ps, l)).2.1 (swp m (d, ps, l)).2.2 P' o' := by
  unfold swp
  dsimp only
  split
  · exact ⟨P, o, h⟩
  · rename_i k hk
    obtain ⟨p, hkp, hg, hp0, hpm⟩ := find_some hk
    rw [hg]
    have hkl := (List.getElem?_eq_some_iff.mp hkp).1
    have hol := h.ol
    obtain ⟨q, hq⟩ : ∃ q, o[k]? = some q := ⟨_, List.getElem?_eq_getElem (by omega)⟩
    have perm : (P ++ [q] ++ o.eraseIdx k).Perm (P ++ o) := by
      rw [List.append_assoc]
      exact (perm_erase hq).append_left P
    have nd' := perm.nodup_iff.mpr h.nd
    have hqP : q ∉ P := fun hm => (List.nodup_append.mp h.nd).2.2 q hm q (List.mem_of_getElem? hq) rfl
    obtain ⟨sp, cp, sp0, cq0, cpz, cpe⟩ := h.lc k p q hkp hq
    have hpw := hs.lw p hpm
    have upd : ∀ (r : List Int) (s : Int) (c : Nat → Int), r.length = p.length → s ≠ 0 → (∀ j, s * nth r j = cmb n M c j) → sp * s * byOf (mix m r p) ≠ 0 ∧ ∀ j, sp * s * byOf (mix m r p) * nth (clr m r p) j = cmb n M (fun i => sp * nth p m * c i - s * nth r m * cp i) j := fun r s c hl s0 e => by
      have := byOf_pos (mix m r p)
      refine ⟨Int.mul_ne_zero (Int.mul_ne_zero sp0 s0) (by omega), fun j => ?_⟩
      rw [cmb_lin, ← e, ← cpe, Int.mul_assoc, Int.mul_comm (byOf _), nth_clr hl]
      simp only [Int.mul_sub, Int.mul_comm, Int.mul_left_comm, Int.mul_assoc]
    refine ⟨P ++ [q], o.eraseIdx k, { ol := ?_, nd := nd', ob := fun i hi => h.ob i (perm.mem_iff.mp hi), pl := by simp [h.pl], dc := ?_, lc := ?_, ind := ?_ }⟩
    · rw [List.length_map, List.length_eraseIdx, List.length_eraseIdx, if_pos hkl, if_pos (by omega)]; omega
    · intro r hr
      rcases List.mem_append.mp hr with hr | hr
      · obtain ⟨r, hr2, rfl⟩ := List.mem_map.mp hr
        obtain ⟨s, c, s0, cz, e⟩ := h.dc r hr2
        obtain ⟨u1, u2⟩ := upd r s c (by rw [hs.dw r hr2, hpw]) s0 e
        refine ⟨_, _, u1, fun i hi => ?_, u2⟩
        have hi' : i ∉ P ∧ i ≠ q := by simpa using hi
        rw [cz i hi'.1, cpz i hi'.1 hi'.2]; simp
      · rw [List.mem_singleton.mp hr]
        refine ⟨sp, cp, sp0, fun i hi => ?_, cpe⟩
        have hi' : i ∉ P ∧ i ≠ q := by simpa using hi
        exact cpz i hi'.1 hi'.2
    · intro j r q' hr hq'
      rw [List.getElem?_map, Option.map_eq_some_iff] at hr
      obtain ⟨r, hr, rfl⟩ := hr
      have : ∃ j' : Nat, l[j']? = some r ∧ o[j']? = some q' := by
        rw [List.getElem?_eraseIdx] at hr hq'
        by_cases hj : j < k
        · rw [if_pos hj] at hr hq'; exact ⟨j, hr, hq'⟩
        · rw [if_neg hj] at hr hq'; exact ⟨j + 1, hr, hq'⟩
      obtain ⟨j', hr', hq2⟩ := this
      obtain ⟨s, c, s0, c0, cz, e⟩ := h.lc j' r q' hr' hq2
      have hqq : q' ≠ q ∧ q' ∉ P := by
        have hm : q' ∈ o.eraseIdx k := List.mem_of_getElem? hq'
        have h3 := (List.nodup_append.mp nd').2.2
        exact ⟨fun z => h3 q (by simp) q' hm z.symm, fun z => h3 q' (by simp [z]) q' hm rfl⟩
      obtain ⟨u1, u2⟩ := upd r s c (by rw [hs.lw r (List.mem_of_getElem? hr'), hpw]) s0 e
      refine ⟨_, _, u1, ?_, fun i hi ne => ?_, u2⟩
      · show sp * nth p m * c q' - s * nth r m * cp q' ≠ 0
        rw [cpz q' hqq.2 hqq.1, Int.mul_zero, Int.sub_zero]
        exact Int.mul_ne_zero (Int.mul_ne_zero sp0 hp0) c0
      · have hi' : i ∉ P ∧ i ≠ q := by simpa using hi
        show sp * nth p m * c i - s * nth r m * cp i = 0
        rw [cz i hi'.1 ne, cpz i hi'.1 hi'.2]; simp
    · intro y hy hz
      have h1 : ∀ i, (fun i => cp q * y i - y q * cp i) i = 0 := h.ind _ (fun i hi => by
        by_cases e : i = q
        · subst e; show cp i * y i - y i * cp i = 0; rw [Int.mul_comm]; omega
        · show cp q * y i - y q * cp i = 0
          rw [hy i (by simp [hi, e]), cpz i hi e]; simp) (fun q' hq' => by
        rw [cmb_lin, hz q' (by simp [hq']), ← cpe, hs.lz p hpm q' (hs.lt q' hq')]; simp)
      have h2 : y q = 0 := by
        have e : cmb n M (fun i => cp q * y i - y q * cp i) m = 0 := cmb_zero h1 _
        rw [cmb_lin, hz m (by simp), ← cpe, Int.mul_zero, Int.zero_sub] at e
        have e := Int.neg_eq_zero.mp e
        rcases Int.mul_eq_zero.mp e with e | e
        · exact e
        · exact absurd e (Int.mul_ne_zero sp0 hp0)
      intro i
      have e : cp q * y i - y q * cp i = 0 := h1 i
      rw [h2, Int.zero_mul, Int.sub_zero] at e
      rcases Int.mul_eq_zero.mp e with e | e
      · exact absurd e cq0
      · exact e
theorem sweep_gh {w : Nat} {rows : List (List Int)} (hw : ∀ r ∈ rows, r.length = w) : ∀ m, ∃ P o, Gh rows.length (matOf rows) (sweep rows m).1 (sweep rows m).2.1 (sweep rows m).2.2 P o
  | 0 => ⟨_, _, gh0 rows⟩
  | m + 1 => let ⟨_, _, h⟩ := sweep_gh hw m; h.step (sweep_sw hw m)
section
variable {w m n : Nat} {M : Nat → Nat → Int} {orig d : List (List Int)} {ps : List Nat} {l : List (List Int)} {P o : List Nat}
end
end GW
set_option exponentiation.threshold 20000
/-! Core 66: bounds of swept rows. -/
namespace GW
theorem nd_len : ∀ {U V : List Nat}, U.Nodup → (∀ i ∈ U, i ∈ V) → U.length ≤ V.length
  | [], V, _, _ => Nat.zero_le _
  | a :: U, V, hU, h => by
    obtain ⟨h1, h2⟩ := List.nodup_cons.mp hU
    have ha := h a (List.mem_cons_self ..)
    have := nd_len h2 (V := V.erase a) fun i hi => (List.mem_erase_of_ne fun e => h1 (by rw [← e]; exact hi)).mpr (h i (List.mem_cons_of_mem _ hi))
    rw [List.length_erase_of_mem ha] at this
    have : 0 < V.length := List.length_pos_of_mem ha
    rw [List.length_cons]; omega
theorem ps_nodup {ps : List Nat} (h : ps.Pairwise (· < ·)) : ps.Nodup := h.imp fun h => by omega
section
variable {w m n K : Nat} {M : Nat → Nat → Int} {orig d : List (List Int)} {ps : List Nat} {l : List (List Int)} {P o : List Nat}
end
end GW
set_option exponentiation.threshold 20000
/-! Core 67: comprehensions that pick; rows lessened, cleared. -/
namespace GW
open PySem
section
variable {cs : List Val} {lists : List (List Val)} {t : Tg} {test : Enm → Store → Res Bool} {elt : Enm → Store → Res Val} {en : Enm} {S : Store} {Q : List Val → Store → Prop} {X : Xt}
end
-- np nn = 1 3
-- np nn = 3 5
section
variable {P : Pg} {fu d : Nat}
end
end GW
set_option exponentiation.threshold 20000
/-! Core 68: rows swept, walked. -/
namespace GW
open PySem
def Keep (S T : Store) : Prop := ∀ (m : Nat) o, S[m]? = some o → T[m]? = some o
theorem Keep.refl (S : Store) : Keep S S := fun _ _ h => h
theorem Keep.trans {S T U : Store} (a : Keep S T) (b : Keep T U) : Keep S U := fun m o h => b m o (a m o h)
theorem Keep.app (S T : Store) : Keep S (S ++ T) := fun m o h => at_app h T
theorem Keep.len {S T : Store} (h : Keep S T) : S.length ≤ T.length := by
  rcases Nat.eq_zero_or_pos S.length with e | e
  · omega
  · have := h (S.length - 1) S[S.length - 1] (List.getElem?_eq_getElem (by omega))
    have := (List.getElem?_eq_some_iff.mp this).1
    omega
theorem Keep.set {S T : Store} {a : Nat} {o : Ob} (h : Keep S T) (ha : S.length ≤ a) : Keep S (T.set a o) := fun m u e => by
  have := (List.getElem?_eq_some_iff.mp e).1
  rw [List.getElem?_set_ne (by omega)]; exact h m u e
theorem at_set_ne {S : Store} {a b : Nat} {o u : Ob} (h : S[b]? = some u) (n : a ≠ b) : (S.set a o)[b]? = some u := by rw [List.getElem?_set_ne n]; exact h
theorem at_set {S : Store} {a : Nat} {o u : Ob} (h : S[a]? = some u) : (S.set a o)[a]? = some o := List.getElem?_set_self (List.getElem?_eq_some_iff.mp h).1
theorem at_end (S : Store) (o : Ob) : (S ++ [o])[S.length]? = some o := at_new S o []
theorem lstI_ref {S : Store} {m : Nat} {zs : List Val} (h : S[m]? = some (.lst zs)) : lstI S (.ref m) = some zs := by unfold lstI; dsimp only; rw [h]
theorem items_ref {S : Store} {m : Nat} {zs : List Val} (h : S[m]? = some (.lst zs)) : items S (.ref m) = some zs := by unfold items; rw [lstI_ref h]
theorem live_ref {S : Store} {m : Nat} {zs : List Val} (h : S[m]? = some (.lst zs)) : live S [.ref m] [zs] := fun p hp => by
  simp only [List.zip_cons_cons, List.zip_nil_right, List.mem_cons, List.not_mem_nil, or_false] at hp
  subst hp
  exact h
-- np nn = 2 10
def RowsLt (z : Nat) (rs : List (List Int)) : Prop := ∀ r ∈ rs, ∀ x ∈ r, x.natAbs < 2 ^ z
structure Told (S T : Store) (s : Swp) (a b c : Nat) : Prop where
  kp : Keep S T
  la : S.length ≤ a
  lb : S.length ≤ b
  lc : S.length ≤ c
  ab : a ≠ b
  ac : a ≠ c
  bc : b ≠ c
  ea : T[a]? = some (.lst (s.2.2.map lI))
  eb : T[b]? = some (.lst (s.1.map lI))
  ec : T[c]? = some (.lst (s.2.1.map fun (p : Nat) => .int p))
section
variable {P : Pg} {fu d : Nat}
end
end GW
set_option exponentiation.threshold 20000
/-! Core 69: ratios over one bottom that is known to be small; free rows. -/
namespace GW
open PySem
def lowP (t b : Int) : Int × Int := (t.fdiv (lowB t b), b.fdiv (lowB t b))
theorem lowP_v (t b : Int) : lowV t b = ratV (lowP t b) := rfl
theorem lowP_is (t : Int) {b : Int} (hb : b ≠ 0) : IsR (lowP t b).1 (lowP t b).2 ∧ (lowP t b).1 * b = t * (lowP t b).2 := by
  obtain ⟨x, y, e, h1, h2, h3, _, _⟩ := low_parts t hb
  have e' : lowP t b = (x, y) := by
    unfold lowV at e
    simp only [Val.tup.injEq, List.cons.injEq, Val.int.injEq, and_true] at e
    unfold lowP; rw [e.1, e.2]
  rw [e']
  refine ⟨h3, ?_⟩
  show x * b = t * y
  conv => lhs; rw [← h2]
  conv => rhs; rw [← h1]
  simp only [Int.mul_assoc, Int.mul_comm, Int.mul_left_comm]
structure Over (ps : List (Int × Int)) (y : List Int) (D : Int) : Prop where
  D0 : D ≠ 0
  len : y.length = ps.length
  rt : ∀ p ∈ ps, IsR p.1 p.2
  eq : ∀ (i : Nat) p, ps[i]? = some p → nth y i * p.2 = p.1 * D
section
variable {ps : List (Int × Int)} {y : List Int} {D : Int}
theorem Over.dvd (h : Over ps y D) {p : Int × Int} (hp : p ∈ ps) : p.2 ∣ D := by
  obtain ⟨i, hi⟩ := List.mem_iff_getElem?.mp hp
  have e := h.eq i p hi
  have r := h.rt p hp
  have hd : p.2 ∣ p.1 * D := ⟨nth y i, by rw [← e, Int.mul_comm]⟩
  have hg : Nat.Coprime p.2.natAbs p.1.natAbs := by
    have := r.low
    rw [Int.gcd_comm] at this
    exact this
  rw [← Int.natAbs_dvd_natAbs, Int.natAbs_mul] at hd
  exact Int.natAbs_dvd_natAbs.mp (hg.dvd_of_dvd_mul_left hd)
theorem nle_of_dvd {a b : Int} (h : a ∣ b) (hb : b ≠ 0) : a.natAbs ≤ b.natAbs := Nat.le_of_dvd (by omega) (Int.natAbs_dvd_natAbs.mpr h)
theorem Over.top (h : Over ps y D) {i : Nat} {p : Int × Int} (hp : ps[i]? = some p) : p.1.natAbs ≤ (nth y i).natAbs := by
  have hm := List.mem_of_getElem? hp
  obtain ⟨z, hz⟩ := h.dvd hm
  have e := h.eq i p hp
  have r := h.rt p hm
  rw [hz, Int.mul_comm (nth y i), Int.mul_left_comm] at e
  have e := Int.eq_of_mul_eq_mul_left (show p.2 ≠ 0 by have := r.pos; omega) e
  rw [e]
  exact abs_le_mul fun z0 => h.D0 (by rw [hz, z0, Int.mul_zero])
theorem Over.row (h : Over ps y D) : 0 < botL ps ∧ botL ps ∣ D ∧ (overI ps (botL ps)).length = ps.length ∧ (∀ i, nth (overI ps (botL ps)) i * D = nth y i * botL ps) ∧ (∀ i, (nth (overI ps (botL ps)) i).natAbs ≤ (nth y i).natAbs) ∧ ∀ m, 0 < lcmL (ps.take m) 1 ∧ lcmL (ps.take m) 1 ∣ D := by
  have all : ∀ qs : List (Int × Int), (∀ p ∈ qs, p ∈ ps) → 0 < lcmL qs 1 ∧ (∀ p ∈ qs, p.2 ∣ lcmL qs 1) ∧ lcmL qs 1 ∣ D := fun qs hq => by
    obtain ⟨k, hk⟩ : ∃ k : Nat, D.natAbs < 2 ^ k := ⟨D.natAbs, Nat.lt_two_pow_self⟩
    obtain ⟨a1, _, a3, a4, _⟩ := lcmL_all qs 1 k 1 (by decide) (fun p hp => ⟨(h.rt p (hq p hp)).pos, Nat.lt_of_le_of_lt (nle_of_dvd (h.dvd (hq p hp)) h.D0) hk⟩) (by decide)
    exact ⟨a1, a3, a4 D (Int.one_dvd _) fun p hp => h.dvd (hq p hp)⟩
  obtain ⟨b1, b2, b3⟩ := all ps fun _ h => h
  have e : ∀ i, nth (overI ps (botL ps)) i * D = nth y i * botL ps := fun i => by
    by_cases hi : i < ps.length
    · have hp := List.getElem?_eq_getElem hi
      generalize ps[i] = p at hp
      have hm := List.mem_of_getElem? hp
      have r := h.rt p hm
      obtain ⟨q, hq⟩ := b2 p hm
      have e1 : (lcmL ps 1).fdiv p.2 = q := by rw [hq]; exact Int.mul_fdiv_cancel_left q (by have := r.pos; omega)
      have e2 : nth (overI ps (botL ps)) i = p.1 * q := nth_of_get (by
        unfold overI botL
        rw [List.getElem?_map, hp, ← e1]; rfl)
      have e3 := h.eq i p hp
      rw [e2]
      unfold botL
      rw [hq, ← Int.mul_assoc, e3]
      simp only [Int.mul_assoc, Int.mul_comm, Int.mul_left_comm]
    · rw [nth_ge (by simp [overI]; omega), nth_ge (by rw [h.len]; omega)]; simp
  refine ⟨b1, b3, by simp [overI], e, fun i => ?_, fun m => ?_⟩
  · obtain ⟨z, hz⟩ := b3
    have e := e i
    unfold botL at e ⊢
    rw [hz, Int.mul_comm (nth y i), Int.mul_left_comm] at e
    have e := Int.eq_of_mul_eq_mul_left (show lcmL ps 1 ≠ 0 by omega) e
    rw [← e]
    exact abs_le_mul fun z0 => h.D0 (by rw [hz, z0, Int.mul_zero])
  · obtain ⟨c1, _, c3⟩ := all (ps.take m) fun p hp => List.mem_of_mem_take hp
    exact ⟨c1, c3⟩
end
structure RowIs (x : List Int) (b : Int) (y : List Int) (D : Int) : Prop where
  row : IsRow x b
  len : x.length = y.length
  eq : ∀ i, nth x i * D = nth y i * b
  xle : ∀ i, (nth x i).natAbs ≤ (nth y i).natAbs
  ble : b.natAbs ≤ D.natAbs
section
variable {P : Pg} {fu d : Nat}
-- np nn = 4 7
structure FreeV (ds : List (List Int)) (ps : List Nat) (at' m : Nat) (y : List Int) (D : Int) : Prop where
  D0 : D ≠ 0
  len : y.length = m
  top : nth y at' = D
  zero : ∀ i, i ∉ ps → i ≠ at' → nth y i = 0
  eq : ∀ (k : Nat) r p, ds[k]? = some r → ps[k]? = some p → nth r p ≠ 0 ∧ nth y p * nth r p = -(nth r at') * D
end
end GW
set_option exponentiation.threshold 20000
/-! Core 70: the one form of a row; free rows told. -/
namespace GW
open PySem
theorem row_uniq {x x' : List Int} {b b' : Int} (h : IsRow x b) (h' : IsRow x' b') (hl : x.length = x'.length) (e : ∀ i, nth x i * b' = nth x' i * b) : x = x' ∧ b = b' := by
  have half : ∀ {x x' : List Int} {b b' : Int}, IsRow x b → IsRow x' b' → x.length = x'.length → (∀ i, nth x i * b' = nth x' i * b) → b ∣ b' := fun {x x' b b'} h h' hl e => by
    have h1 := gcdL_mul x b b' (Int.le_of_lt h'.pos) (Int.le_of_lt h.pos)
    rw [h.low, Int.one_mul] at h1
    rw [← h1]
    refine dvd_gcdL _ _ _ (Int.dvd_mul_right b b') fun z hz => ?_
    obtain ⟨u, hu, rfl⟩ := List.mem_map.mp hz
    obtain ⟨i, _, rfl⟩ := mem_nth hu
    rw [e]
    exact Int.dvd_mul_left _ _
  have d1 := half h h' hl e
  have d2 := half h' h hl.symm fun i => (e i).symm
  have hb : b = b' := Int.le_antisymm (Int.le_of_dvd h'.pos d1) (Int.le_of_dvd h.pos d2)
  subst hb
  refine ⟨nth_ext hl fun i _ => Int.eq_of_mul_eq_mul_right (show b ≠ 0 by have := h.pos; omega) (e i), rfl⟩
theorem RowIs.uniq {x x' y : List Int} {b b' D : Int} (h : RowIs x b y D) (h' : RowIs x' b' y D) (hD : D ≠ 0) : x = x' ∧ b = b' := row_uniq h.row h'.row (by rw [h.len, h'.len]) fun i => by
  refine Int.eq_of_mul_eq_mul_right hD ?_
  rw [Int.mul_right_comm, h.eq, Int.mul_right_comm (nth x' i), h'.eq, Int.mul_right_comm]
theorem rowIs_ex {y : List Int} {D : Int} (hD : D ≠ 0) (h1 : 1 ≤ y.length) (h2 : y.length ≤ 12) : ∃ x b, RowIs x b y D := by
  have pos : ∀ (y : List Int) (D : Int), 0 < D → 1 ≤ y.length → y.length ≤ 12 → ∃ x b, RowIs x b y D := fun y D hD h1 h2 => by
    obtain ⟨ms, c, e, m1, m2, c0, g1, ml, cb, sz⟩ := short_parts y hD
    have g0 := gcdL_pos (ns := y) hD
    have en : ∀ i, nth ms i * gcdL y D = nth y i := fun i => by
      conv => rhs; rw [← m1]
      rw [nth_map (f := fun x => x * gcdL y D) (Int.zero_mul _)]
    generalize gcdL y D = G at *
    refine ⟨ms, c, ⟨by omega, by omega, c0, g1⟩, ml, fun i => ?_, fun i => ?_, by omega⟩
    · rw [← en i, ← m2, Int.mul_right_comm, Int.mul_assoc]
    · rw [← en i]; exact abs_le_mul (by omega)
  rcases Int.lt_or_le 0 D with h | h
  · exact pos y D h h1 h2
  · obtain ⟨x, b, r⟩ := pos (y.map fun v => v * (-1)) (-D) (by omega) (by simpa using h1) (by simpa using h2)
    have en : ∀ i, nth (y.map fun v => v * (-1)) i = nth y i * (-1) := fun i => nth_map (f := fun v => v * (-1)) (by simp) i
    refine ⟨x, b, r.row, by rw [r.len]; simp, fun i => ?_, fun i => ?_, ?_⟩
    · have := r.eq i
      rw [en, Int.mul_neg, Int.mul_right_comm, Int.mul_neg, Int.mul_one] at this
      omega
    · have := r.xle i
      rw [en] at this
      omega
    · have := r.ble; omega
open Classical in
noncomputable def rowOf (y : List Int) (D : Int) : List Int × Int := if h : ∃ p : List Int × Int, RowIs p.1 p.2 y D then h.choose else ([], 0)
theorem rowOf_is {y : List Int} {D : Int} (hD : D ≠ 0) (h1 : 1 ≤ y.length) (h2 : y.length ≤ 12) : RowIs (rowOf y D).1 (rowOf y D).2 y D := by
  obtain ⟨x, b, r⟩ := rowIs_ex hD h1 h2
  have h : ∃ p : List Int × Int, RowIs p.1 p.2 y D := ⟨(x, b), r⟩
  unfold rowOf
  rw [dif_pos h]
  exact h.choose_spec
theorem RowIs.is {x y : List Int} {b D : Int} (h : RowIs x b y D) (hD : D ≠ 0) : rowV x b = rowP (rowOf y D) := by
  have r := rowOf_is hD (by rw [← h.len]; exact h.row.lo) (by rw [← h.len]; exact h.row.hi)
  obtain ⟨e1, e2⟩ := h.uniq r hD
  unfold rowP
  rw [← e1, ← e2]
structure FreeY (rs : List (List Int)) (w at' : Nat) (y : List Int) : Prop where
  fv : FreeV (sweep rs w).1 (sweep rs w).2.1 at' w y (nth y at')
  bd : ∀ i, (nth y i).natAbs < 2 ^ 4400
  ker : Ker w rs y
def isFree (rs : List (List Int)) (w at' : Nat) : Bool := decide (at' ∉ (sweep rs w).2.1)
def frees (rs : List (List Int)) (w : Nat) : List Nat := (List.range w).filter (isFree rs w)
open Classical in
noncomputable def freeY (rs : List (List Int)) (w at' : Nat) : List Int := if h : ∃ y, FreeY rs w at' y then h.choose else []
noncomputable def freeR (rs : List (List Int)) (w at' : Nat) : List Int × Int := rowOf (freeY rs w at') (nth (freeY rs w at') at')
structure Sound (rs : List (List Int)) (w : Nat) : Prop where
  wd : ∀ r ∈ rs, r.length = w
  hi : rs.length ≤ 12
  b9 : RowsLt 9000 rs
  sw : ∀ k, k ≤ w → RowsLt 4400 (sweep rs k).1 ∧ RowsLt 4400 (sweep rs k).2.2
  fr : ∀ at', at' < w → isFree rs w at' = true → ∃ y, FreeY rs w at' y
end GW
set_option exponentiation.threshold 20000
/-! Core 71: free rows: what they are, how they are told. -/
namespace GW
open PySem
structure FreeRow (rs : List (List Int)) (w at' : Nat) (x : List Int) (c : Int) : Prop where
  row : IsRow x c
  len : x.length = w
  top : nth x at' = c
  oth : ∀ i, isFree rs w i = true → i ≠ at' → nth x i = 0
  beh : ∀ i, at' < i → nth x i = 0
  ker : Ker w rs x
  bd : Bdd 4400 x c
noncomputable def freeRs (rs : List (List Int)) (w : Nat) : List (List Int × Int) := (frees rs w).map (freeR rs w)
-- np nn = 1 6
structure cFreeRows (kt : Nat) (f : List Val → Store → Res Val) : Prop where
  bad : ∀ S v, Okv S v → isTab v = false → f [v] S = .exc kt [v] S
  ok : ∀ S rs b w (Q : Val → Store → Prop) (X : Xt), IsTab rs b w → Bdd 9000 rs.flatten b → Sound rs w → (∀ l T, Keep S T → S.length ≤ l → T[l]? = some (.lst ((freeRs rs w).map rowP)) → Q (.ref l) T) → W (f [tabV rs b] S) Q X
section
variable {P : Pg} {fu d : Nat}
end
end GW
set_option exponentiation.threshold 20000
/-! Core 72: what the laws from k10 on draw with. -/
namespace GW
open PySem
section
variable {P : Pg} {fu d : Nat}
end
end GW
set_option exponentiation.threshold 20000
/-! Core 73: numbers and bottoms drawn, from k10 on; tables that are written, row by row. -/
namespace GW
open PySem
-- np nn = 1 3
-- np nn = 1 2
section
variable {P : Pg} {fu d : Nat}
end
/-! tables that are written, row by row -/
structure Mat (S0 S : Store) (l R n w k : Nat) (refs : List Nat) : Prop where
  dr : Dr l S0 S
  rl : S0.length ≤ R
  rn : R ≠ l
  at' : S[R]? = some (.lst (refs.map .ref))
  len : refs.length = n
  nd : refs.Nodup
  row : ∀ a ∈ refs, S0.length ≤ a ∧ a ≠ l ∧ a ≠ R ∧ ∃ r : List Int, S[a]? = some (.lst (r.map .int)) ∧ r.length = w ∧ ∀ x ∈ r, x.natAbs < 2 ^ k
theorem Mat.go {S0 S T : Store} {l R n w k : Nat} {refs : List Nat} (h : Mat S0 S l R n w k refs) (D : Dr l S T) : Mat S0 T l R n w k refs :=
  ⟨h.dr.trans D, h.rl, h.rn, D.kp _ _ h.rn h.at', h.len, h.nd, fun a ha => by
    obtain ⟨h1, h2, h3, r, e, h4, h5⟩ := h.row a ha
    exact ⟨h1, h2, h3, r, D.kp _ _ h2 e, h4, h5⟩⟩
theorem Mat.up {S0 S : Store} {l R n w k k' : Nat} {refs : List Nat} (h : Mat S0 S l R n w k refs) (hk : k ≤ k') : Mat S0 S l R n w k' refs :=
  ⟨h.dr, h.rl, h.rn, h.at', h.len, h.nd, fun a ha => by
      obtain ⟨h1, h2, h3, r, e, h4, h5⟩ := h.row a ha
      exact ⟨h1, h2, h3, r, e, h4, fun x hx => pow_up (h5 x hx) hk⟩⟩
theorem Mat.hold {S0 S : Store} {l R n w k : Nat} {refs : List Nat} (h : Mat S0 S l R n w k refs) : ∃ ps : List (Val × List Int), items S (.ref R) = some (ps.map (·.1)) ∧ live S [.ref R] [ps.map (·.1)] ∧ (∀ p ∈ ps, Hold S p.1 p.2) ∧ ps.length = n ∧ (∀ r ∈ rowsOf ps, r.length = w) ∧ ∀ x ∈ (rowsOf ps).flatten, x.natAbs < 2 ^ k := by
  have key : ∀ refs : List Nat, (∀ a ∈ refs, ∃ r : List Int, S[a]? = some (.lst (r.map .int)) ∧ r.length = w ∧ ∀ x ∈ r, x.natAbs < 2 ^ k) → ∃ ps : List (Val × List Int), ps.map (·.1) = refs.map .ref ∧ (∀ p ∈ ps, Hold S p.1 p.2 ∧ p.2.length = w ∧ ∀ x ∈ p.2, x.natAbs < 2 ^ k) := by
    intro refs
    induction refs with
    | nil => intro _; exact ⟨[], rfl, fun p h => (nomatch h)⟩
    | cons a refs ih =>
      intro hh
      obtain ⟨ps, e, hp⟩ := ih fun b hb => hh b (List.mem_cons_of_mem _ hb)
      obtain ⟨r, e1, e2, e3⟩ := hh a (List.mem_cons_self ..)
      refine ⟨(.ref a, r) :: ps, by simp [e], fun p hm => ?_⟩
      rcases List.mem_cons.mp hm with rfl | hm
      · exact ⟨hold_ref e1, e2, e3⟩
      · exact hp p hm
  obtain ⟨ps, e, hp⟩ := key refs fun a ha => by obtain ⟨_, _, _, r, e⟩ := h.row a ha; exact ⟨r, e⟩
  refine ⟨ps, by rw [e]; exact items_ref h.at', by rw [e]; exact live_ref h.at', fun p hm => (hp p hm).1, ?_, fun r hr => ?_, fun x hx => ?_⟩
  · have := congrArg List.length e
    rw [List.length_map, List.length_map, h.len] at this; exact this
  · obtain ⟨p, hm, rfl⟩ := List.mem_map.mp hr
    exact (hp p hm).2.1
  · obtain ⟨r, hr, hx⟩ := List.mem_flatten.mp hx
    obtain ⟨p, hm, rfl⟩ := List.mem_map.mp hr
    exact (hp p hm).2.2 x hx
theorem Dr.len {S T : Store} {l : Nat} (D : Dr l S T) : S.length ≤ T.length := by
  rcases Nat.eq_zero_or_pos S.length with h0 | h0
  · omega
  · have e := (List.getElem?_eq_some_iff (l := S) (i := S.length - 1)).mpr ⟨by omega, rfl⟩
    by_cases hh : S.length - 1 = l
    · have := D.pu.lt; omega
    · have := (List.getElem?_eq_some_iff.mp (D.kp _ _ hh e)).1
      omega
section
variable {O : Om} {en : Enm} {S : Store} {Q : Val → Store → Prop} {X : Xt} {nu : Nat}
end
theorem Mat.put {S0 S : Store} {l R n w k : Nat} {refs : List Nat} (h : Mat S0 S l R n w k refs) {a : Nat} (ha : a ∈ refs) {r : List Int} (hl : r.length = w) (hb : ∀ x ∈ r, x.natAbs < 2 ^ k) : Mat S0 (S.set a (.lst (r.map .int))) l R n w k refs := by
  obtain ⟨h1, h2, h3, r0, e0, _⟩ := h.row a ha
  refine ⟨h.dr.put h1 h2, h.rl, h.rn, at_set_ne h.at' h3, h.len, h.nd, fun c hc => ?_⟩
  obtain ⟨c1, c2, c3, s, es, c4⟩ := h.row c hc
  by_cases e : a = c
  · subst e
    exact ⟨c1, c2, c3, r, at_set e0, hl, hb⟩
  · exact ⟨c1, c2, c3, s, at_set_ne es e, c4⟩
theorem Mat.swap {S0 S : Store} {l R n w k : Nat} {refs : List Nat} (h : Mat S0 S l R n w k refs) {j : Nat} {r : List Int} (hl : r.length = w) (hb : ∀ x ∈ r, x.natAbs < 2 ^ k) : Mat S0 ((S ++ [Ob.lst (r.map Val.int)]).set R (.lst ((refs.set j S.length).map Val.ref))) l R n w k (refs.set j S.length) := by
  have hRl := (List.getElem?_eq_some_iff.mp h.at').1
  have hpl := h.dr.pu.lt
  have lt : ∀ c ∈ refs, c < S.length := fun c hc => by
    obtain ⟨_, _, _, s, es, _⟩ := h.row c hc
    exact (List.getElem?_eq_some_iff.mp es).1
  refine ⟨(h.dr.trans (.app h.dr.pu _)).put h.rl h.rn, h.rl, h.rn, at_set (at_app h.at' _), by rw [List.length_set]; exact h.len, ?_, fun c hc => ?_⟩
  · by_cases hj : j < refs.length
    · refine List.pairwise_iff_getElem.mpr fun i i' hi hi' hii => ?_
      rw [List.length_set] at hi hi'
      have pw := List.pairwise_iff_getElem.mp h.nd
      rw [List.getElem_set, List.getElem_set]
      by_cases e1 : j = i
      · subst e1
        rw [if_pos rfl, if_neg (by omega)]
        have := lt _ (List.getElem_mem hi'); omega
      · by_cases e2 : j = i'
        · subst e2
          rw [if_neg e1, if_pos rfl]
          have := lt _ (List.getElem_mem hi); omega
        · rw [if_neg e1, if_neg e2]; exact pw i i' hi hi' hii
    · rw [List.set_eq_of_length_le (by omega)]; exact h.nd
  · rcases List.mem_or_eq_of_mem_set hc with hc | rfl
    · obtain ⟨c1, c2, c3, s, es, c4⟩ := h.row c hc
      exact ⟨c1, c2, c3, s, at_set_ne (at_app es _) (Ne.symm c3), c4⟩
    · exact ⟨h.dr.len, by omega, by omega, r, at_set_ne (at_end _ _) (by omega), hl, hb⟩
theorem Mat.get {S0 S : Store} {l R n w k : Nat} {refs : List Nat} (h : Mat S0 S l R n w k refs) {j : Nat} (hj : j < n) : ∃ (a : Nat) (r : List Int), refs[j]? = some a ∧ a ∈ refs ∧ a ≠ R ∧ S[a]? = some (.lst (r.map .int)) ∧ r.length = w ∧ ∀ x ∈ r, x.natAbs < 2 ^ k := by
  have hl := h.len
  have e := List.getElem?_eq_getElem (show j < refs.length by omega)
  have hm := List.getElem_mem (show j < refs.length by omega)
  obtain ⟨c1, c2, c3, s, es, c4⟩ := h.row _ hm
  exact ⟨_, s, e, hm, c3, es, c4⟩
theorem Mat.tab {S0 S : Store} {l R n w k : Nat} {refs : List Nat} {f : List Val → Store → Res Val} (hf : cFlat f) (h : Mat S0 S l R n w k refs) (hk : k ≤ 9000) (n1 : 1 ≤ n) (n12 : n ≤ 12) (w1 : 1 ≤ w) (w12 : w ≤ 12) {b : Int} (b0 : 0 < b) (hb : b.natAbs < 2 ^ k) : ∃ ms c, f [.ref R, .int b] S = .ok (tabV ms c) S ∧ IsTab ms c w ∧ Bdd k ms.flatten c ∧ ms.length = n := by
  obtain ⟨ps, h1, h2, h3, h4, h5, h6⟩ := h.hold
  have bd : Bdd k (rowsOf ps).flatten b := ⟨h6, hb⟩
  have e := hf S (.ref R) ps b h1 h2 h3 (by omega) (fun p hp => by rw [h5 p.2 (List.mem_map_of_mem hp)]; omega) b0 (bd.up hk)
  obtain ⟨ms, c, e2, q1, q2, q3⟩ := shortT_is (rs := rowsOf ps) (by rw [List.length_map]; omega) (by rw [List.length_map]; omega) w1 w12 h5 b0 bd
  exact ⟨ms, c, by rw [e, e2], q1, q2, by rw [q3, List.length_map, h4]⟩
end GW
set_option exponentiation.threshold 20000
/-! Core 74: small helpers of the laws' ends; rows with units behind them. -/
namespace GW
open PySem
theorem dotI_dot {r x : List Int} (h : r.length = x.length) : dotI r x = dot r.length r x := by
  rw [dot_zip r x h]
  unfold dotI
  rw [List.zip_eq_zipWith, List.map_zipWith]
theorem sumN_split (m : Nat) : ∀ (n : Nat) (f : Nat → Int), sumN (m + n) f = sumN m f + sumN n fun i => f (m + i)
  | 0, f => by show sumN m f = sumN m f + 0; omega
  | n + 1, f => by
    show sumN (m + n) f + f (m + n) = sumN m f + (sumN n (fun i => f (m + i)) + f (m + n))
    rw [sumN_split m n f]; omega
theorem aug_lin {R : List (List Int)} {m n : Nat} (hR : R.length = n) (hu : ∀ k, k < n → ∀ i, i < n → matOf R k (m + i) = if i = k then 1 else 0) {rest : List Int} (h : ∀ x, x.length = m + n → Ker (m + n) R x → dot (m + n) rest x = 0) (j : Nat) (hj : j < m) : nth rest j = sumN n fun k => nth rest (m + k) * matOf R k j := by
  have key : ∀ r : List Int, dot (m + n) r (mkR (m + n) fun i => if i < m then (if i = j then 1 else 0) else -(matOf R (i - m) j)) = nth r j - sumN n fun k => nth r (m + k) * matOf R k j := fun r => by
    unfold dot
    rw [sumN_split m n, sumN_one hj fun i hi ne => ?_, nth_mkR (show j < m + n by omega), if_pos hj, if_pos rfl, Int.mul_one]
    · rw [sumN_congr (g := fun k => (-1) * (nth r (m + k) * matOf R k j)) fun i hi => ?_, sumN_mul]
      · omega
      · rw [nth_mkR (show m + i < m + n by omega), if_neg (show ¬ m + i < m by omega), show m + i - m = i by omega, Int.mul_neg, Int.neg_mul, Int.one_mul]
    · rw [nth_mkR (show i < m + n by omega), if_pos hi, if_neg ne, Int.mul_zero]
  have := h _ (mkR_len _ _) fun r hr => by
    obtain ⟨k, hk⟩ := List.mem_iff_getElem?.mp hr
    have hkl := (List.getElem?_eq_some_iff.mp hk).1
    have e : R.getD k [] = r := by rw [List.getD_eq_getElem?_getD, hk]; rfl
    have em : ∀ i, matOf R k i = nth r i := fun i => by unfold matOf; rw [e]
    rw [key, sumN_one (show k < n by omega) fun i hi ne => ?_, ← em, ← em, hu k (by omega) k (by omega), if_pos rfl]
    · omega
    · rw [← em, hu k (by omega) i hi, if_neg ne, Int.zero_mul]
  rw [key] at this
  omega
end GW
set_option exponentiation.threshold 20000
/-! Core 75: equations: rows with the told numbers and the units behind them. -/
namespace GW
open PySem
theorem unitL_len {n k : Nat} (h : k < n) : (unitL n k).length = n := by unfold unitL; simp; omega
theorem nth_app_l {a b : List Int} {i : Nat} (h : i < a.length) : nth (a ++ b) i = nth a i := by
  unfold nth; rw [List.getD_eq_getElem?_getD, List.getElem?_append_left h, ← List.getD_eq_getElem?_getD]
theorem nth_app_r {a b : List Int} {i : Nat} : nth (a ++ b) (a.length + i) = nth b i := by
  unfold nth; rw [List.getD_eq_getElem?_getD, List.getElem?_append_right (by omega), Nat.add_sub_cancel_left, ← List.getD_eq_getElem?_getD]
theorem nth_rep0 (k i : Nat) : nth (List.replicate k 0) i = 0 := by
  by_cases h : i < k
  · refine nth_of_get ?_
    rw [List.getElem?_replicate, if_pos h]
  · exact nth_ge (by simpa using h)
theorem nth_unitL {n k : Nat} (h : k < n) (i : Nat) : nth (unitL n k) i = if i = k then 1 else 0 := by
  unfold unitL
  rw [List.append_assoc]
  by_cases h1 : i < k
  · rw [nth_app_l (by simpa using h1), nth_rep0, if_neg (by omega)]
  · obtain ⟨j, rfl⟩ : ∃ j, i = (List.replicate k (0 : Int)).length + j := ⟨i - k, by rw [List.length_replicate]; omega⟩
    rw [nth_app_r, List.length_replicate]
    cases j with
    | zero => simp [nth_0]
    | succ j => rw [List.singleton_append, nth_s, nth_rep0, if_neg (by omega)]
theorem drop_nth (xs : List Int) (m i : Nat) : nth (xs.drop m) i = nth xs (m + i) := by
  unfold nth
  rw [List.getD_eq_getElem?_getD, List.getElem?_drop, ← List.getD_eq_getElem?_getD]
def augR (rs : List (List Int)) (b : Int) (ns : List Int) (c : Int) (k : Nat) : List Int := timesI (rs.getD k []) c ++ [nth ns k * b] ++ unitL ns.length k
def aug (rs : List (List Int)) (b : Int) (ns : List Int) (c : Int) : List (List Int) := (List.range rs.length).map (augR rs b ns c)
section
variable {rs : List (List Int)} {b : Int} {ns : List Int} {c : Int} {w : Nat}
theorem aug_len : (aug rs b ns c).length = rs.length := by simp [aug]
theorem aug_get {k : Nat} (hk : k < rs.length) : (aug rs b ns c).getD k [] = augR rs b ns c k := by
  unfold aug
  rw [List.getD_eq_getElem?_getD, List.getElem?_map, List.getElem?_range hk]; rfl
theorem getD_mem {k : Nat} (hk : k < rs.length) : rs.getD k [] ∈ rs := by
  rw [List.getD_eq_getElem?_getD, List.getElem?_eq_getElem hk]; exact List.getElem_mem hk
theorem times_nth (r : List Int) (x : Int) (i : Nat) : nth (timesI r x) i = nth r i * x := nth_map (f := fun n => n * x) (Int.zero_mul _) i
theorem times_len (r : List Int) (x : Int) : (timesI r x).length = r.length := by simp [timesI]
theorem aug_row (hw : ∀ r ∈ rs, r.length = w) (hl : ns.length = rs.length) {k : Nat} (hk : k < rs.length) : (augR rs b ns c k).length = w + 1 + rs.length := by
  unfold augR
  rw [List.length_append, List.length_append, times_len, hw _ (getD_mem hk), unitL_len (by omega), hl]; rfl
theorem aug_wd (hw : ∀ r ∈ rs, r.length = w) (hl : ns.length = rs.length) : ∀ r ∈ aug rs b ns c, r.length = w + 1 + rs.length := fun r hr => by
  obtain ⟨k, hk, rfl⟩ := List.mem_map.mp hr
  exact aug_row hw hl (List.mem_range.mp hk)
theorem aug_left (hw : ∀ r ∈ rs, r.length = w) {k i : Nat} (hk : k < rs.length) (hi : i < w) : matOf (aug rs b ns c) k i = matOf rs k i * c := by
  have e := hw _ (getD_mem hk)
  unfold matOf
  rw [aug_get hk]
  unfold augR
  rw [List.append_assoc, nth_app_l (by rw [times_len]; omega), times_nth]
theorem aug_mid (hw : ∀ r ∈ rs, r.length = w) {k : Nat} (hk : k < rs.length) : matOf (aug rs b ns c) k w = nth ns k * b := by
  have e := hw _ (getD_mem hk)
  unfold matOf
  rw [aug_get hk]
  unfold augR
  rw [List.append_assoc]
  have h := nth_app_r (a := timesI (rs.getD k []) c) (b := [nth ns k * b] ++ unitL ns.length k) (i := 0)
  rw [times_len, e] at h
  exact h
theorem aug_unit (hw : ∀ r ∈ rs, r.length = w) (hl : ns.length = rs.length) {k i : Nat} (hk : k < rs.length) : matOf (aug rs b ns c) k (w + 1 + i) = if i = k then 1 else 0 := by
  have e := hw _ (getD_mem hk)
  unfold matOf
  rw [aug_get hk]
  unfold augR
  have h := nth_app_r (a := timesI (rs.getD k []) c ++ [nth ns k * b]) (b := unitL ns.length k) (i := i)
  rw [List.length_append, times_len, e] at h
  rw [show w + 1 + i = w + [nth ns k * b].length + i from rfl, h, nth_unitL (by omega)]
structure SolY (rs : List (List Int)) (b : Int) (ns : List Int) (c : Int) (w : Nat) (y : List Int) (D : Int) : Prop where
  D0 : D ≠ 0
  len : y.length = w
  zero : ∀ i, i ∉ (sweep (aug rs b ns c) w).2.1 → nth y i = 0
  eq : ∀ (k : Nat) r p, (sweep (aug rs b ns c) w).1[k]? = some r → (sweep (aug rs b ns c) w).2.1[k]? = some p → nth r p ≠ 0 ∧ nth y p * nth r p = nth r w * D
  bd : ∀ i, (nth y i).natAbs < 2 ^ 4400
  bD : D.natAbs < 2 ^ 4400
  sol : ∀ k, k < rs.length → sumN w (fun i => matOf rs k i * nth y i) * c = nth ns k * b * D
def noLeft (rs : List (List Int)) (b : Int) (ns : List Int) (c : Int) (w : Nat) : Bool := (sweep (aug rs b ns c) w).2.2.all fun r => decide (nth r w = 0)
structure SolvS (rs : List (List Int)) (b : Int) (ns : List Int) (c : Int) (w : Nat) : Prop where
  b9 : RowsLt 9000 (aug rs b ns c)
  sw : ∀ k, k ≤ w → RowsLt 4400 (sweep (aug rs b ns c) k).1 ∧ RowsLt 4400 (sweep (aug rs b ns c) k).2.2
  ex : noLeft rs b ns c w = true → ∃ p : List Int × Int, SolY rs b ns c w p.1 p.2
theorem mat_abs {R : List (List Int)} {z : Nat} (h : RowsLt z R) {i : Nat} (hi : i < R.length) (j : Nat) : (matOf R i j).natAbs ≤ 2 ^ z := by
  unfold matOf
  rw [List.getD_eq_getElem?_getD, List.getElem?_eq_getElem hi]
  show (nth R[i] j).natAbs ≤ _
  by_cases hj : j < R[i].length
  · exact Nat.le_of_lt (h _ (List.getElem_mem hi) _ (nth_mem hj))
  · rw [nth_ge (by omega)]; exact Nat.zero_le _
structure NoSol (rs : List (List Int)) (w : Nat) (ns : List Int) (l : List Int) : Prop where
  len : l.length = rs.length
  ker : ∀ j, j < w → sumN rs.length (fun k => nth l k * matOf rs k j) = 0
  not : sumN rs.length (fun k => nth l k * nth ns k) ≠ 0
theorem left_nosol (hw : ∀ r ∈ rs, r.length = w) (hl : ns.length = rs.length) (hc : c ≠ 0) {r : List Int} (hr : r ∈ (sweep (aug rs b ns c) w).2.2) (h0 : nth r w ≠ 0) : NoSol rs w ns (r.drop (w + 1)) := by
  have wd := aug_wd (b := b) (c := c) hw hl
  have s := sweep_sw wd w
  have lin := aug_lin (R := aug rs b ns c) (m := w + 1) (n := rs.length) aug_len (fun k hk i hi => aug_unit hw hl hk) (rest := r) fun x _ hx => ((s.ker x).mp hx).2 r hr
  refine ⟨by rw [List.length_drop, s.lw r hr]; omega, fun j hj => ?_, fun e => h0 ?_⟩
  · have e := lin j (by omega)
    rw [s.lz r hr j hj, sumN_congr (g := fun k => nth (r.drop (w + 1)) k * matOf rs k j * c) fun k hk => by rw [aug_left hw hk hj, drop_nth, Int.mul_assoc], sumN_mul'] at e
    rcases Int.mul_eq_zero.mp e.symm with h | h
    · exact h
    · exact absurd h hc
  · rw [lin w (by omega), sumN_congr (g := fun k => nth (r.drop (w + 1)) k * nth ns k * b) fun k hk => by rw [aug_mid hw hk, drop_nth, Int.mul_assoc], sumN_mul', e, Int.zero_mul]
open Classical in
noncomputable def solY (rs : List (List Int)) (b : Int) (ns : List Int) (c : Int) (w : Nat) : List Int × Int := if h : ∃ p : List Int × Int, SolY rs b ns c w p.1 p.2 then h.choose else ([], 0)
theorem solY_is (h : SolvS rs b ns c w) (hz : noLeft rs b ns c w = true) : SolY rs b ns c w (solY rs b ns c w).1 (solY rs b ns c w).2 := by
  have e := h.ex hz
  unfold solY
  rw [dif_pos e]
  exact e.choose_spec
noncomputable def solvV (rs : List (List Int)) (b : Int) (ns : List Int) (c : Int) (w : Nat) : Val := match (sweep (aug rs b ns c) w).2.2.find? (fun r => decide (nth r w ≠ 0)) with
  | some r => .tup [.str "none", rowV (r.drop (w + 1)) 1]
  | none => .tup [.str "row", rowP (rowOf (solY rs b ns c w).1 (solY rs b ns c w).2)]
theorem gcdL_one (ns : List Int) : gcdL ns 1 = 1 := by
  have h1 := gcdL_pos (ns := ns) (b := 1) (by decide)
  have h2 := gcdL_le (ns := ns) (b := 1) (by decide)
  omega
theorem find_nz {l : List (List Int)} {w : Nat} (h : l.find? (fun r => decide (nth r w ≠ 0)) = none) : l.all (fun r => decide (nth r w = 0)) = true := List.all_eq_true.mpr fun r hr => by
  have := List.find?_eq_none.mp h r hr
  simpa using this
structure Sol (rs : List (List Int)) (b : Int) (ns : List Int) (c : Int) (w : Nat) (x : List Int) (z : Int) : Prop where
  row : IsRow x z
  len : x.length = w
  eq : ∀ k, k < rs.length → sumN w (fun i => matOf rs k i * nth x i) * c = nth ns k * b * z
  bd : Bdd 4400 x z
theorem solvV_is (h : SolvS rs b ns c w) (hw : ∀ r ∈ rs, r.length = w) (hl : ns.length = rs.length) (w1 : 1 ≤ w) (w12 : w ≤ 12) (n1 : 1 ≤ rs.length) (n12 : rs.length ≤ 12) (hc : c ≠ 0) : (∃ l, solvV rs b ns c w = .tup [.str "none", rowV l 1] ∧ IsRow l 1 ∧ NoSol rs w ns l ∧ Bdd 4400 l 1) ∨ ∃ x z, solvV rs b ns c w = .tup [.str "row", rowV x z] ∧ Sol rs b ns c w x z := by
  unfold solvV
  split
  · rename_i r hr
    have hm := List.mem_of_find?_eq_some hr
    have h0 : nth r w ≠ 0 := by have := List.find?_some hr; simpa using this
    have q := left_nosol hw hl hc hm h0
    refine .inl ⟨_, rfl, ⟨by rw [q.len]; exact n1, by rw [q.len]; exact n12, by decide, gcdL_one _⟩, q, ⟨fun x hx => ?_, by exact Nat.one_lt_two_pow (by decide)⟩⟩
    exact (h.sw w (Nat.le_refl w)).2 r hm x (List.mem_of_mem_drop hx)
  · rename_i hr
    have q := solY_is h (find_nz hr)
    refine .inr ⟨_, _, rfl, ?_⟩
    generalize solY rs b ns c w = p at *
    obtain ⟨y, D⟩ := p
    dsimp only at *
    have r := rowOf_is q.D0 (by rw [q.len]; exact w1) (by rw [q.len]; exact w12)
    generalize rowOf y D = p at *
    obtain ⟨x, z⟩ := p
    dsimp only at *
    refine ⟨r.row, by rw [r.len, q.len], fun k hk => ?_, ⟨fun v hv => ?_, Nat.lt_of_le_of_lt r.ble q.bD⟩⟩
    · refine Int.eq_of_mul_eq_mul_right q.D0 ?_
      have e : sumN w (fun i => matOf rs k i * nth x i) * D = sumN w (fun i => matOf rs k i * nth y i) * z := by
        rw [← sumN_mul', ← sumN_mul']
        exact sumN_congr fun i _ => by rw [Int.mul_assoc, r.eq, ← Int.mul_assoc]
      rw [Int.mul_right_comm, e, Int.mul_right_comm, q.sol k hk, Int.mul_right_comm]
    · obtain ⟨i, _, rfl⟩ := mem_nth hv
      exact Nat.lt_of_le_of_lt (r.xle i) (q.bd i)
end
end GW
set_option exponentiation.threshold 20000
/-! Core 76: equations, walked. -/
namespace GW
open PySem
structure cSolved (kt kr kf : Nat) (f : List Val → Store → Res Val) : Prop where
  bad1 : ∀ S u v, Okv S u → isTab u = false → f [u, v] S = .exc kt [u] S
  bad2 : ∀ S u v, Okv S u → Okv S v → isTab u = true → isRow v = false → f [u, v] S = .exc kr [v] S
  nofit : ∀ S rs b w ns c, IsTab rs b w → IsRow ns c → Bdd 9000 rs.flatten b → Bdd 9000 ns c → rs.length ≠ ns.length → f [tabV rs b, rowV ns c] S = .exc kf [.tup [tabV rs b, rowV ns c]] S
  ok : ∀ S rs b w ns c (Q : Val → Store → Prop) (X : Xt), IsTab rs b w → IsRow ns c → Bdd 9000 rs.flatten b → Bdd 9000 ns c → ns.length = rs.length → SolvS rs b ns c w → (∀ T, Keep S T → Q (solvV rs b ns c w) T) → W (f [tabV rs b, rowV ns c] S) Q X
section
variable {P : Pg} {fu d : Nat}
end
end GW
set_option exponentiation.threshold 20000
/-! Core 77: numbers, bottoms, rows drawn; columns, sums, rows taken. -/
namespace GW
open PySem
def cNumK (k : Nat) : Ct := fun f => ∀ (S : Store) (l : Nat) (Q : Val → Store → Prop) (X : Xt), Purse S l → (∀ (d : Int) (T : Store), d.natAbs < 2 ^ k → Dr l S T → Q (.int d) T) → W (f [.ref l] S) Q X
def cBotK (k : Nat) : Ct := fun f => ∀ (S : Store) (l : Nat) (Q : Val → Store → Prop) (X : Xt), Purse S l → (∀ (d : Int) (T : Store), 0 < d → d.natAbs < 2 ^ k → Dr l S T → Q (.int d) T) → W (f [.ref l] S) Q X
theorem cNumK.up {k m : Nat} {f : List Val → Store → Res Val} (h : cNumK k f) (hm : k ≤ m) : cNumK m f := fun S l Q X p hq => h S l Q X p fun d T hd D => hq d T (pow_up hd hm) D
theorem cBotK.up {k m : Nat} {f : List Val → Store → Res Val} (h : cBotK k f) (hm : k ≤ m) : cBotK m f := fun S l Q X p hq => h S l Q X p fun d T h0 hd D => hq d T h0 (pow_up hd hm) D
theorem At.num {P : Pg} {fu d i k m : Nat} (h : At P fu d i (cNumK k)) (hm : k ≤ m) : At P fu d i (cNumK m) := fun n hn => (h n hn).up hm
section
variable {S : Store} {Q : Wk → Store → Prop} {X : Xt}
end
section
variable {P : Pg} {fu d : Nat}
end
end GW
set_option exponentiation.threshold 20000
/-! Core 78: answers with a word ahead; rows in their one form. -/
namespace GW
open PySem
theorem map_nth {rs : List (List Int)} {k j : Nat} (hk : k < rs.length) : nth (rs.map fun r => nth r j) k = matOf rs k j := by
  unfold matOf
  refine nth_of_get ?_
  rw [List.getElem?_map, List.getD_eq_getElem?_getD, List.getElem?_eq_getElem hk]; rfl
theorem dot_row {rs : List (List Int)} {w k : Nat} (hw : ∀ r ∈ rs, r.length = w) (hk : k < rs.length) {x : List Int} (hx : x.length = w) : nth (applI rs x) k = sumN w fun i => matOf rs k i * nth x i := by
  have hm := getD_mem hk
  have e : nth (applI rs x) k = dotI (rs.getD k []) x := by
    unfold applI
    refine nth_of_get ?_
    rw [List.getElem?_map, List.getD_eq_getElem?_getD, List.getElem?_eq_getElem hk]; rfl
  rw [e, dotI_dot (by rw [hw _ hm, hx]), hw _ hm]
  rfl
theorem NoSol.none {rs : List (List Int)} {w : Nat} {ns l : List Int} (h : NoSol rs w ns l) {b c : Int} {x : Nat → Int} {z : Int} (hb : b ≠ 0) (hz : z ≠ 0) (hx : ∀ k, k < rs.length → sumN w (fun i => matOf rs k i * x i) * c = nth ns k * b * z) : False := by
  refine h.not ?_
  refine Int.eq_of_mul_eq_mul_right (show b * z ≠ 0 from Int.mul_ne_zero hb hz) ?_
  rw [Int.zero_mul, ← sumN_mul']
  rw [sumN_congr (g := fun k => sumN w (fun i => nth l k * matOf rs k i * (x i * c))) fun k hk => by
    rw [Int.mul_assoc, ← Int.mul_assoc (nth ns k), ← hx k hk, ← sumN_mul', ← sumN_mul]
    exact sumN_congr fun i _ => by simp only [Int.mul_assoc]]
  rw [sumN_swap]
  refine sumN_zero fun i hi => ?_
  rw [sumN_mul', h.ker i hi, Int.zero_mul]
section
variable {P : Pg} {fu d : Nat}
end
end GW
set_option exponentiation.threshold 20000
/-! Core 79: determinants. -/
namespace GW
open PySem
abbrev Mt := Nat → Nat → Int
def sgn (j : Nat) : Int := if j % 2 = 0 then 1 else -1
theorem sgn_s (j : Nat) : sgn (j + 1) = -sgn j := by
  unfold sgn
  by_cases h : j % 2 = 0
  · rw [if_pos h, if_neg (by omega)]
  · rw [if_neg h, if_pos (by omega)]; rfl
theorem sgn_abs (j : Nat) : (sgn j).natAbs = 1 := by unfold sgn; split <;> rfl
def skip (j k : Nat) : Nat := if k < j then k else k + 1
def minor (M : Mt) (j : Nat) : Mt := fun i k => M (i + 1) (skip j k)
def det : Nat → Mt → Int
  | 0, _ => 1
  | n + 1, M => sumN (n + 1) fun j => sgn j * M 0 j * det n (minor M j)
theorem skip_lt {j k n : Nat} (hk : k < n) : skip j k < n + 1 := by unfold skip; split <;> omega
theorem det_congr : ∀ {n : Nat} {M N : Mt}, (∀ i, i < n → ∀ j, j < n → M i j = N i j) → det n M = det n N
  | 0, _, _, _ => rfl
  | n + 1, M, N, h => sumN_congr fun j hj => by
    rw [h 0 (by omega) j hj, det_congr (n := n) (M := minor M j) (N := minor N j) fun i hi k hk => h (i + 1) (by omega) _ (skip_lt hk)]
def upR (M : Mt) (r : Nat) (v : Nat → Int) : Mt := fun i => if i = r then v else M i
theorem upR_at (M : Mt) (r : Nat) (v : Nat → Int) : upR M r v r = v := by unfold upR; rw [if_pos rfl]
theorem upR_ne {M : Mt} {r i : Nat} (h : i ≠ r) (v : Nat → Int) : upR M r v i = M i := by unfold upR; rw [if_neg h]
theorem upR_id (M : Mt) (r : Nat) : upR M r (M r) = M := by funext i; unfold upR; split <;> simp_all
theorem upR_com {M : Mt} {r s : Nat} (h : r ≠ s) (u v : Nat → Int) : upR (upR M r u) s v = upR (upR M s v) r u := by
  funext i
  unfold upR
  by_cases h1 : i = s
  · subst h1; rw [if_pos rfl, if_neg (fun e => h e.symm), if_pos rfl]
  · rw [if_neg h1]; split <;> simp_all
theorem minor_up0 (M : Mt) (v : Nat → Int) (j : Nat) : minor (upR M 0 v) j = minor M j := by
  funext i k
  unfold minor
  rw [upR_ne (by omega)]
theorem minor_ups (M : Mt) (r : Nat) (v : Nat → Int) (j : Nat) : minor (upR M (r + 1) v) j = upR (minor M j) r fun k => v (skip j k) := by
  funext i k
  unfold minor upR
  by_cases h : i = r
  · rw [if_pos (by omega), if_pos h]
  · rw [if_neg (by omega), if_neg h]
structure Lin (n : Nat) (F : Mt → Int) : Prop where
  lin : ∀ (A : Mt) (r : Nat) (u v : Nat → Int) (a b : Int), r < n → F (upR A r fun t => a * u t + b * v t) = a * F (upR A r u) + b * F (upR A r v)
  ext : ∀ A B : Mt, (∀ i, i < n → ∀ t, t < n → A i t = B i t) → F A = F B
theorem det_lin : ∀ n, Lin n (det n)
  | 0 => ⟨fun A r u v a b h => by omega, fun _ _ _ => rfl⟩
  | n + 1 => ⟨fun A r u v a b h => by
    cases r with
    | zero =>
      show sumN (n + 1) _ = a * sumN (n + 1) _ + b * sumN (n + 1) _
      rw [← sumN_mul, ← sumN_mul, ← sumN_add]
      refine sumN_congr fun j _ => ?_
      rw [minor_up0, minor_up0, minor_up0, upR_at, upR_at, upR_at, Int.mul_add, Int.add_mul]
      simp only [Int.mul_assoc, Int.mul_comm, Int.mul_left_comm]
    | succ r =>
      show sumN (n + 1) _ = a * sumN (n + 1) _ + b * sumN (n + 1) _
      rw [← sumN_mul, ← sumN_mul, ← sumN_add]
      refine sumN_congr fun j _ => ?_
      rw [minor_ups, minor_ups, minor_ups, upR_ne (by omega), upR_ne (by omega), upR_ne (by omega), (det_lin n).lin _ r _ _ a b (by omega), Int.mul_add]
      simp only [Int.mul_assoc, Int.mul_comm, Int.mul_left_comm], fun A B h => det_congr h⟩
theorem two_sum (f : Nat → Nat → Int) : ∀ m, (∀ j k, j ≤ k → k < m → f j k + f (k + 1) j = 0) → sumN (m + 1) (fun j => sumN m fun k => f j k) = 0
  | 0, _ => rfl
  | m + 1, h => by
    have ih := two_sum f m fun j k h1 h2 => h j k h1 (by omega)
    have e1 : sumN (m + 1) (fun j => sumN (m + 1) fun k => f j k) = sumN (m + 1) (fun j => sumN m fun k => f j k) + sumN (m + 1) fun j => f j m := by rw [← sumN_add]; rfl
    have e2 : sumN (m + 1) (fun j => f j m) + sumN (m + 1) (fun k => f (m + 1) k) = 0 := by
      rw [← sumN_add]
      exact sumN_zero fun j hj => h j m (by omega) (by omega)
    show sumN (m + 1) (fun j => sumN (m + 1) fun k => f j k) + sumN (m + 1) (fun k => f (m + 1) k) = 0
    omega
theorem det_alt0 (n : Nat) (M : Mt) (h : ∀ t, t < n + 2 → M 0 t = M 1 t) : det (n + 2) M = 0 := by
  have e : det (n + 2) M = sumN (n + 2) fun j => sumN (n + 1) fun k => sgn j * M 0 j * (sgn k * M 1 (skip j k) * det n (minor (minor M j) k)) := by
    show sumN (n + 2) (fun j => sgn j * M 0 j * sumN (n + 1) fun k => sgn k * M 1 (skip j k) * det n (minor (minor M j) k)) = _
    exact sumN_congr fun j _ => (sumN_mul _).symm
  rw [e]
  refine two_sum _ (n + 1) fun j k hjk hk => ?_
  have s1 : skip j k = k + 1 := by unfold skip; rw [if_neg (by omega)]
  have s2 : skip (k + 1) j = j := by unfold skip; rw [if_pos (by omega)]
  have e : minor (minor M (k + 1)) j = minor (minor M j) k := by
    funext i l
    show M (i + 2) (skip (k + 1) (skip j l)) = M (i + 2) (skip j (skip k l))
    congr 1
    unfold skip
    split <;> split <;> split <;> (first | omega | (split <;> omega))
  rw [s1, s2, e, ← h j (by omega), ← h (k + 1) (by omega), sgn_s]
  generalize det n (minor (minor M j) k) = D
  simp only [Int.neg_mul]
  rw [show sgn k * M 0 (k + 1) * (sgn j * M 0 j * D) = sgn j * M 0 j * (sgn k * M 0 (k + 1) * D) by simp only [Int.mul_assoc, Int.mul_comm, Int.mul_left_comm]]
  omega
theorem det_altA : ∀ (n r : Nat) (M : Mt), r + 1 < n → (∀ t, t < n → M r t = M (r + 1) t) → det n M = 0
  | 0, r, M, h, _ => by omega
  | n + 1, 0, M, h, e => by
    obtain ⟨m, rfl⟩ : ∃ m, n = m + 1 := ⟨n - 1, by omega⟩
    exact det_alt0 m M e
  | n + 1, r + 1, M, h, e => sumN_zero fun j hj => by
    rw [det_altA n r (minor M j) (by omega) fun t ht => e _ (skip_lt ht), Int.mul_zero]
section
variable {n : Nat} {F : Mt → Int}
theorem Lin.swap (L : Lin n F) {i j : Nat} (hi : i < n) (hj : j < n) (hij : i ≠ j) (alt : ∀ A, (∀ t, A i t = A j t) → F A = 0) (A : Mt) (u v : Nat → Int) : F (upR (upR A i u) j v) = -F (upR (upR A i v) j u) := by
  have same : ∀ w : Nat → Int, F (upR (upR A i w) j w) = 0 := fun w => alt _ fun t => by rw [upR_at, upR_ne hij, upR_at]
  have h := same fun t => 1 * u t + 1 * v t
  rw [L.lin _ j u v 1 1 hj, upR_com hij, L.lin _ i u v 1 1 hi, upR_com hij, L.lin _ i u v 1 1 hi] at h
  rw [← upR_com hij, ← upR_com hij, ← upR_com hij, ← upR_com hij, same u, same v] at h
  omega
end
theorem det_alt {n : Nat} : ∀ (k i : Nat) (M : Mt), i + 1 + k < n → (∀ t, t < n → M i t = M (i + 1 + k) t) → det n M = 0
  | 0, i, M, h, e => det_altA n i M h e
  | k + 1, i, M, h, e => by
    have L := det_lin n
    have alt : ∀ A : Mt, (∀ t, A (i + 1 + k) t = A (i + 1 + k + 1) t) → det n A = 0 := fun A q => det_altA n _ A (by omega) fun t _ => q t
    have hM : M = upR (upR M (i + 1 + k) (M (i + 1 + k))) (i + 1 + k + 1) (M (i + 1 + k + 1)) := by rw [upR_id, upR_id]
    rw [hM, L.swap (by omega) (by omega) (by omega) alt, det_alt k i _ (by omega) fun t ht => ?_]
    · rfl
    · rw [upR_ne (by omega), upR_ne (by omega), upR_ne (by omega), upR_at]
      exact e t ht
theorem det_two {n i j : Nat} {M : Mt} (hij : i ≠ j) (hi : i < n) (hj : j < n) (e : ∀ t, t < n → M i t = M j t) : det n M = 0 := by
  rcases Nat.lt_or_gt_of_ne hij with h | h
  · have := det_alt (n := n) (j - i - 1) i M (by omega) (by rw [show i + 1 + (j - i - 1) = j by omega]; exact e)
    exact this
  · exact det_alt (n := n) (i - j - 1) j M (by omega) (by rw [show j + 1 + (i - j - 1) = i by omega]; exact fun t ht => (e t ht).symm)
def unit (j : Nat) : Nat → Int := fun t => if t = j then 1 else 0
section
variable {n : Nat} {F : Mt → Int}
theorem Lin.zero (L : Lin n F) {r : Nat} (hr : r < n) (A : Mt) : F (upR A r fun _ => 0) = 0 := by
  have h := L.lin A r (fun _ => 0) (fun _ => 0) 0 0 hr
  simp only [Int.zero_mul, Int.add_zero] at h
  exact h
theorem Lin.sum (L : Lin n F) {r : Nat} (hr : r < n) (A : Mt) (v : Nat → Int) (U : Nat → Nat → Int) : ∀ m, F (upR A r fun t => sumN m fun j => v j * U j t) = sumN m fun j => v j * F (upR A r (U j))
  | 0 => L.zero hr A
  | m + 1 => by
    have h := L.lin A r (fun t => sumN m fun j => v j * U j t) (U m) 1 (v m) hr
    rw [L.sum hr A v U m] at h
    show F (upR A r fun t => (sumN m fun j => v j * U j t) + v m * U m t) = _ + _
    rw [← Int.one_mul (sumN m fun j => v j * F (upR A r (U j))), ← h]
    congr 2
    funext t
    rw [Int.one_mul]
theorem unit_sum {n t : Nat} (ht : t < n) (v : Nat → Int) : sumN n (fun j => v j * unit j t) = v t := by
  rw [sumN_one ht fun j _ ne => by unfold unit; rw [if_neg (Ne.symm ne), Int.mul_zero]]
  unfold unit; rw [if_pos rfl, Int.mul_one]
theorem Lin.units (L : Lin n F) {r : Nat} (hr : r < n) (A : Mt) (v : Nat → Int) : F (upR A r v) = sumN n fun j => v j * F (upR A r (unit j)) := by
  rw [← L.sum hr A v unit n]
  refine L.ext _ _ fun i hi t ht => ?_
  unfold upR
  split
  · exact (unit_sum ht v).symm
  · rfl
end
def cof (n : Nat) (M : Mt) (k j : Nat) : Int := det n (upR M k (unit j))
theorem cof_sum {n k : Nat} (hk : k < n) (M : Mt) {i : Nat} (hi : i < n) : sumN n (fun j => M i j * cof n M k j) = if i = k then det n M else 0 := by
  have h := (det_lin n).units hk M (M i)
  unfold cof
  rw [← h]
  split
  · rename_i e; subst e; rw [upR_id]
  · rename_i e
    exact det_two e hi hk fun t _ => by rw [upR_ne e, upR_at]
/-! how great they are -/
def dbd (B : Nat) : Nat → Nat
  | 0 => 1
  | n + 1 => (n + 1) * (B * dbd B n)
theorem det_bd {B : Nat} : ∀ {n : Nat} {M : Mt}, (∀ i, i < n → ∀ j, j < n → (M i j).natAbs ≤ B) → (det n M).natAbs ≤ dbd B n
  | 0, _, _ => Nat.le_refl _
  | n + 1, M, h => sumN_abs fun j hj => by
    rw [Int.natAbs_mul, Int.natAbs_mul, sgn_abs, Nat.one_mul]
    exact Nat.mul_le_mul (h 0 (by omega) j hj) (det_bd fun i hi k hk => h (i + 1) (by omega) _ (skip_lt hk))
theorem cof_bd {B n : Nat} {M : Mt} (hB : 1 ≤ B) (h : ∀ i, i < n → ∀ j, j < n → (M i j).natAbs ≤ B) (k j : Nat) : (cof n M k j).natAbs ≤ dbd B n := det_bd fun i hi t ht => by
  unfold upR
  split
  · unfold unit; split
    · exact hB
    · exact Nat.zero_le _
  · exact h i hi t ht
theorem dbd_le {k : Nat} : ∀ n, n ≤ 16 → dbd (2 ^ k) n ≤ 2 ^ ((k + 4) * n)
  | 0, _ => by simp [dbd]
  | n + 1, h => by
    have ih := dbd_le (k := k) n (by omega)
    show (n + 1) * (2 ^ k * dbd (2 ^ k) n) ≤ _
    have : (n + 1) * (2 ^ k * dbd (2 ^ k) n) ≤ 2 ^ 4 * (2 ^ k * 2 ^ ((k + 4) * n)) := Nat.mul_le_mul (by omega) (Nat.mul_le_mul_left _ ih)
    refine Nat.le_trans this (Nat.le_of_eq ?_)
    rw [← Nat.pow_add, ← Nat.pow_add]
    congr 1
    rw [Nat.mul_add]; omega
/-! there is but one such form -/
def idM : Mt := fun i => unit i
theorem Lin.clear {n : Nat} {F : Mt → Int} (L : Lin n F) (alt : ∀ (A : Mt) (i j : Nat), i ≠ j → i < n → j < n → (∀ t, t < n → A i t = A j t) → F A = 0) (A : Mt) {i j : Nat} (hij : i ≠ j) (hi : i < n) (hj : j < n) (c : Int) : F (upR A i fun t => A i t + c * A j t) = F A := by
  have h := L.lin A i (A i) (A j) 1 c hi
  rw [upR_id, alt (upR A i (A j)) i j hij hi hj fun t _ => by rw [upR_at, upR_ne (Ne.symm hij)], Int.mul_zero, Int.one_mul, Int.add_zero] at h
  rw [← h]
  congr 2
  funext t
  rw [Int.one_mul]
def wide (j : Nat) (B : Mt) : Mt := fun i t => match i with
  | 0 => unit j t
  | i + 1 => if t = j then 0 else B i (if t < j then t else t - 1)
theorem det_only : ∀ (n : Nat) (F : Mt → Int), Lin n F → (∀ (A : Mt) (i j : Nat), i ≠ j → i < n → j < n → (∀ t, t < n → A i t = A j t) → F A = 0) → ∀ A, F A = det n A * F idM
  | 0, F, L, _, A => by
    show F A = 1 * _
    rw [Int.one_mul]
    exact L.ext _ _ fun i hi => by omega
  | n + 1, F, L, alt, A => by
    -- the first row, unit by unit
    have h0 := L.units (show 0 < n + 1 by omega) A (A 0)
    rw [upR_id] at h0
    -- rows with a unit ahead
    have G : ∀ j, j < n + 1 → F (upR A 0 (unit j)) = det n (minor A j) * F (wide j idM) := fun j hj => by
      have hG : F (upR A 0 (unit j)) = F (wide j (minor A j)) := by
        have step : ∀ m, m ≤ n → F (upR A 0 (unit j)) = F (fun i t => match i with
          | 0 => unit j t
          | i + 1 => if i < m then (if t = j then 0 else A (i + 1) t) else A (i + 1) t) := fun m => by
          induction m with
          | zero =>
            intro _
            refine L.ext _ _ fun i hi t ht => ?_
            cases i with
            | zero => rw [upR_at]
            | succ i => rw [upR_ne (by omega)]; simp
          | succ m ih =>
            intro hm
            rw [ih (by omega), ← L.clear alt (fun i t => match i with
              | 0 => unit j t
              | i + 1 => if i < m then (if t = j then 0 else A (i + 1) t) else A (i + 1) t) (i := m + 1) (j := 0) (by omega) (by omega) (by omega) (-(A (m + 1) j))]
            refine L.ext _ _ fun i hi t ht => ?_
            by_cases e : i = m + 1
            · subst e
              rw [upR_at]
              dsimp only
              rw [if_neg (by omega), if_pos (by omega)]
              unfold unit
              by_cases q : t = j
              · subst q; rw [if_pos rfl, if_pos rfl]; omega
              · rw [if_neg q, if_neg q, Int.mul_zero, Int.add_zero]
            · rw [upR_ne e]
              cases i with
              | zero => rfl
              | succ i =>
                dsimp only
                by_cases q : i < m
                · simp only [if_pos q, if_pos (show i < m + 1 by omega)]
                · simp only [if_neg q, if_neg (show ¬ i < m + 1 by omega)]
        rw [step n (Nat.le_refl n)]
        refine L.ext _ _ fun i hi t ht => ?_
        cases i with
        | zero => rfl
        | succ i =>
          show (if i < n then (if t = j then 0 else A (i + 1) t) else A (i + 1) t) = if t = j then 0 else A (i + 1) (skip j (if t < j then t else t - 1))
          rw [if_pos (by omega)]
          by_cases q : t = j
          · rw [if_pos q, if_pos q]
          · rw [if_neg q, if_neg q]
            congr 1
            unfold skip
            by_cases q2 : t < j
            · rw [if_pos q2, if_pos q2]
            · rw [if_neg q2, if_neg (by omega)]; omega
      rw [hG]
      have W : ∀ (B : Mt) (r : Nat) (u : Nat → Int), wide j (upR B r u) = upR (wide j B) (r + 1) fun t => if t = j then 0 else u (if t < j then t else t - 1) := fun B r u => by
        funext i t
        cases i with
        | zero => rw [upR_ne (by omega)]; rfl
        | succ i =>
          by_cases e : i = r
          · subst e; rw [upR_at]; show (if t = j then 0 else upR B i u i _) = _; rw [upR_at]
          · rw [upR_ne (by omega)]; show (if t = j then 0 else upR B r u i _) = (if t = j then 0 else B i _); rw [upR_ne e]
      refine det_only n (fun B => F (wide j B)) ⟨fun B r u v a b hr => ?_, fun B C hBC => ?_⟩ (fun B i k hik hi hk e => ?_) (minor A j)
      · rw [W, W, W, ← L.lin _ (r + 1) _ _ a b (by omega)]
        congr 2
        funext t
        by_cases q : t = j
        · simp [q]
        · simp [q]
      · refine L.ext _ _ fun i hi t ht => ?_
        cases i with
        | zero => rfl
        | succ i =>
          show (if t = j then 0 else B i _) = if t = j then 0 else C i _
          by_cases q : t = j
          · rw [if_pos q, if_pos q]
          · rw [if_neg q, if_neg q]
            refine hBC i (by omega) _ ?_
            split <;> omega
      · refine alt _ (i + 1) (k + 1) (by omega) (by omega) (by omega) fun t ht => ?_
        show (if t = j then 0 else B i _) = if t = j then 0 else B k _
        by_cases q : t = j
        · rw [if_pos q, if_pos q]
        · rw [if_neg q, if_neg q]
          refine e _ ?_
          split <;> omega
    -- the units behind a unit
    have K : ∀ j, j < n + 1 → F (wide j idM) = sgn j * F idM := fun j => by
      induction j with
      | zero =>
        intro _
        rw [show sgn 0 = 1 from rfl, Int.one_mul]
        refine L.ext _ _ fun i hi t ht => ?_
        cases i with
        | zero => rfl
        | succ i =>
          show (if t = 0 then 0 else if (if t < 0 then t else t - 1) = i then 1 else 0) = if t = i + 1 then (1 : Int) else 0
          rw [if_neg (show ¬ t < 0 by omega)]
          by_cases q : t = 0
          · rw [if_pos q, if_neg (by omega)]
          · rw [if_neg q]
            by_cases q2 : t = i + 1
            · rw [if_pos q2, if_pos (by omega)]
            · rw [if_neg q2, if_neg (by omega)]
      | succ j ih =>
        intro hj
        have sw := L.swap (i := 0) (j := j + 1) (by omega) (by omega) (by omega) (fun A e => alt A 0 (j + 1) (by omega) (by omega) (by omega) fun t _ => e t) (wide j idM) (unit (j + 1)) (unit j)
        have e1 : F (upR (upR (wide j idM) 0 (unit (j + 1))) (j + 1) (unit j)) = F (wide (j + 1) idM) := L.ext _ _ fun i hi t ht => by
          cases i with
          | zero => rw [upR_ne (by omega), upR_at]; rfl
          | succ i =>
            by_cases q : i = j
            · subst q
              rw [upR_at]
              show (if t = i then (1 : Int) else 0) = if t = i + 1 then 0 else if (if t < i + 1 then t else t - 1) = i then 1 else 0
              (repeat' split) <;> omega
            · rw [upR_ne (by omega), upR_ne (by omega)]
              show (if t = j then (0 : Int) else if (if t < j then t else t - 1) = i then 1 else 0) = if t = j + 1 then 0 else if (if t < j + 1 then t else t - 1) = i then 1 else 0
              (repeat' split) <;> omega
        have e2 : F (upR (upR (wide j idM) 0 (unit j)) (j + 1) (unit (j + 1))) = F (wide j idM) := L.ext _ _ fun i hi t ht => by
          cases i with
          | zero => rw [upR_ne (by omega), upR_at]; rfl
          | succ i =>
            by_cases q : i = j
            · subst q
              rw [upR_at]
              show (if t = i + 1 then (1 : Int) else 0) = if t = i then 0 else if (if t < i then t else t - 1) = i then 1 else 0
              (repeat' split) <;> omega
            · rw [upR_ne (by omega), upR_ne (by omega)]
        rw [e1, e2, ih (by omega)] at sw
        rw [sw, sgn_s, Int.neg_mul]
    rw [h0]
    show _ = sumN (n + 1) (fun j => sgn j * A 0 j * det n (minor A j)) * F idM
    rw [← sumN_mul']
    refine sumN_congr fun j hj => ?_
    rw [G j hj, K j hj]
    simp only [Int.mul_assoc, Int.mul_comm, Int.mul_left_comm]
def mulM (n : Nat) (A B : Mt) : Mt := fun i t => sumN n fun j => A i j * B j t
theorem det_mul (n : Nat) (A B : Mt) : det n (mulM n A B) = det n A * det n B := by
  have up : ∀ (A : Mt) (r : Nat) (u : Nat → Int), mulM n (upR A r u) B = upR (mulM n A B) r fun t => sumN n fun j => u j * B j t := fun A r u => by
    funext i t
    unfold mulM upR
    split <;> rfl
  have h := det_only n (fun A => det n (mulM n A B)) ⟨fun A r u v a b hr => by
      rw [up, up, up, ← (det_lin n).lin _ r _ _ a b hr]
      congr 2
      funext t
      rw [← sumN_mul, ← sumN_mul, ← sumN_add]
      exact sumN_congr fun j _ => by rw [Int.add_mul, Int.mul_assoc, Int.mul_assoc], fun A C h => det_congr fun i hi t ht => sumN_congr fun j hj => by rw [h i hi j hj]⟩
    (fun A i j hij hi hj e => det_two hij hi hj fun t _ => sumN_congr fun k hk => by rw [e k hk]) A
  rw [h]
  congr 1
  refine det_congr fun i hi t ht => ?_
  show sumN n (fun j => unit i j * B j t) = B i t
  rw [sumN_one hi fun j _ ne => by unfold unit; rw [if_neg ne, Int.zero_mul]]
  unfold unit; rw [if_pos rfl, Int.one_mul]
theorem det_diag : ∀ (n : Nat) (p : Nat → Int), (∀ k, k < n → p k ≠ 0) → det n (fun i t => if t = i then p i else 0) ≠ 0
  | 0, p, _ => by show (1 : Int) ≠ 0; decide
  | n + 1, p, h => by
    have e : det (n + 1) (fun i t => if t = i then p i else 0) = p 0 * det n (fun i t => if t = i then p (i + 1) else 0) := by
      show sumN (n + 1) _ = _
      rw [sumN_one (show 0 < n + 1 by omega) fun j _ ne => by dsimp only; rw [if_neg ne, Int.mul_zero, Int.zero_mul]]
      show sgn 0 * (if (0 : Nat) = 0 then p 0 else 0) * det n (minor (fun i t => if t = i then p i else 0) 0) = _
      rw [if_pos rfl, show sgn 0 = 1 from rfl, Int.one_mul]
      congr 1
      refine det_congr fun i hi t ht => ?_
      show (if skip 0 t = i + 1 then p (i + 1) else 0) = _
      have hs : skip 0 t = t + 1 := by unfold skip; rw [if_neg (by omega)]
      rw [hs]
      by_cases q : t = i
      · rw [if_pos (show t + 1 = i + 1 by omega), if_pos q]
      · rw [if_neg (show ¬ t + 1 = i + 1 by omega), if_neg q]
    rw [e]
    exact Int.mul_ne_zero (h 0 (by omega)) (det_diag n (fun k => p (k + 1)) fun k hk => h (k + 1) (by omega))
theorem det_ne {n : Nat} {M U : Mt} {p : Nat → Int} (hp : ∀ k, k < n → p k ≠ 0) (h : ∀ k, k < n → ∀ i, i < n → sumN n (fun j => U k j * M j i) = if i = k then p k else 0) : det n M ≠ 0 := fun e => by
  have d := det_mul n U M
  rw [e, Int.mul_zero, show det n (mulM n U M) = det n (fun i t => if t = i then p i else 0) from det_congr fun k hk i hi => h k hk i hi] at d
  exact det_diag n p hp d
end GW
set_option exponentiation.threshold 20000
/-! Core 80: a table of rows whose numbers have a small bottom in common. -/
namespace GW
open PySem
theorem mat_of_get {rs : List (List Int)} {k : Nat} {r : List Int} (h : rs[k]? = some r) (i : Nat) : matOf rs k i = nth r i := by
  unfold matOf; rw [List.getD_eq_getElem?_getD, h]; rfl
theorem tab_ext {rs ms : List (List Int)} {w : Nat} (hl : rs.length = ms.length) (h1 : ∀ r ∈ rs, r.length = w) (h2 : ∀ r ∈ ms, r.length = w) (h : ∀ k, k < rs.length → ∀ i, i < w → matOf rs k i = matOf ms k i) : rs = ms := by
  refine List.ext_getElem hl fun k hk hk2 => ?_
  have e1 := mat_of_get (List.getElem?_eq_getElem hk)
  have e2 := mat_of_get (List.getElem?_eq_getElem hk2)
  have l1 := h1 _ (List.getElem_mem hk)
  have l2 := h2 _ (List.getElem_mem hk2)
  exact nth_ext (by rw [l1, l2]) fun i hi => by rw [← e1, ← e2]; exact h k hk i (by omega)
theorem cut_mat (g : Int) (rs : List (List Int)) (k i : Nat) : matOf (cutT g rs) k i = (matOf rs k i).fdiv g := by
  unfold matOf cutT
  rw [List.getD_eq_getElem?_getD, List.getElem?_map, List.getD_eq_getElem?_getD]
  cases rs[k]? with
  | none => show nth [] i = (nth [] i).fdiv g; rw [nth_nil, Int.zero_fdiv]
  | some r => show nth (r.map fun x => x.fdiv g) i = (nth r i).fdiv g; rw [nth_map (f := fun x => x.fdiv g) (Int.zero_fdiv g)]
theorem flat_mat {rs : List (List Int)} {k i : Nat} (hk : k < rs.length) (hi : i < (rs.getD k []).length) : matOf rs k i ∈ rs.flatten := List.mem_flatten.mpr ⟨_, getD_mem hk, nth_mem hi⟩
theorem shortT_val {rs : List (List Int)} {b : Int} {w k : Nat} (h1 : 1 ≤ rs.length) (h2 : rs.length ≤ 12) (w1 : 1 ≤ w) (w2 : w ≤ 12) (hw : ∀ r ∈ rs, r.length = w) (hb : 0 < b) (hk : Bdd k rs.flatten b) : ∃ ms c, shortT rs b = tabV ms c ∧ IsTab ms c w ∧ ms.length = rs.length ∧ Bdd k ms.flatten c ∧ (∀ i j, matOf ms i j * b = matOf rs i j * c) ∧ (∀ i j, (matOf ms i j).natAbs ≤ (matOf rs i j).natAbs) ∧ c.natAbs ≤ b.natAbs := by
  obtain ⟨ms, c, e, t, kb, l⟩ := shortT_is h1 h2 w1 w2 hw hb hk
  obtain ⟨g0, gd⟩ := gcdL_dvd rs.flatten b
  have gp := gcdL_pos (ns := rs.flatten) hb
  have e0 := e
  unfold shortT tabV at e
  simp only [Val.tup.injEq, List.cons.injEq, Val.int.injEq, and_true] at e
  obtain ⟨e1, e2⟩ := e
  have inj : ∀ {a b : List (List Int)}, a.map tI = b.map tI → a = b := fun {a b} h => by
    have := congrArg (List.map intsOf) h
    rwa [intsOf_map, intsOf_map] at this
  have e1 := inj e1
  generalize gcdL rs.flatten b = G at *
  have cg : c * G = b := by rw [← e2]; exact Int.fdiv_mul_cancel g0
  have mg : ∀ i j, matOf ms i j * G = matOf rs i j := fun i j => by
    rw [← e1, cut_mat]
    by_cases hi : i < rs.length
    · by_cases hj : j < (rs.getD i []).length
      · exact Int.fdiv_mul_cancel (gd _ (flat_mat hi hj))
      · unfold matOf; rw [nth_ge (by omega), Int.zero_fdiv, Int.zero_mul]
    · unfold matOf; rw [List.getD_eq_getElem?_getD, List.getElem?_eq_none (by omega)]
      show (nth [] j).fdiv G * G = nth [] j
      rw [nth_nil, Int.zero_fdiv, Int.zero_mul]
  refine ⟨ms, c, e0, t, l, kb, fun i j => ?_, fun i j => ?_, ?_⟩
  · rw [← mg i j, ← cg, Int.mul_assoc, Int.mul_comm G c]
  · rw [← mg i j]; exact abs_le_mul (by omega)
  · rw [← cg]; exact abs_le_mul (by omega)
theorem tab_uniq {X X' : List (List Int)} {Z Z' : Int} {w w' : Nat} (h : IsTab X Z w) (h' : IsTab X' Z' w') (hw : w = w') (hl : X.length = X'.length) (e : ∀ k, k < X.length → ∀ i, i < w → matOf X k i * Z' = matOf X' k i * Z) : X = X' ∧ Z = Z' := by
  subst hw
  have half : ∀ {X X' : List (List Int)} {Z Z' : Int}, IsTab X Z w → IsTab X' Z' w → (∀ k, k < X.length → ∀ i, i < w → matOf X k i * Z' = matOf X' k i * Z) → Z ∣ Z' := fun {X X' Z Z'} h h' e => by
    have h1 := gcdL_mul X.flatten Z Z' (Int.le_of_lt h'.pos) (Int.le_of_lt h.pos)
    rw [h.low, Int.one_mul] at h1
    rw [← h1]
    refine dvd_gcdL _ _ _ (Int.dvd_mul_right Z Z') fun z hz => ?_
    obtain ⟨u, hu, rfl⟩ := List.mem_map.mp hz
    obtain ⟨r, hr, hu⟩ := List.mem_flatten.mp hu
    obtain ⟨k, hk⟩ := List.mem_iff_getElem?.mp hr
    obtain ⟨i, hi, rfl⟩ := mem_nth hu
    have hkl := (List.getElem?_eq_some_iff.mp hk).1
    have := e k hkl i (by rw [h.wd r hr] at hi; exact hi)
    rw [mat_of_get hk] at this
    rw [this]
    exact Int.dvd_mul_left _ _
  have d1 := half h h' e
  have d2 := half h' h fun k hk i hi => (e k (by omega) i hi).symm
  have hb : Z = Z' := Int.le_antisymm (Int.le_of_dvd h'.pos d1) (Int.le_of_dvd h.pos d2)
  subst hb
  exact ⟨tab_ext hl h.wd h'.wd fun k hk i hi => Int.eq_of_mul_eq_mul_right (show Z ≠ 0 by have := h.pos; omega) (e k hk i hi), rfl⟩
structure OverR (ps : List (List Int × Int)) (Y : Mt) (D : Int) (w : Nat) : Prop where
  D0 : D ≠ 0
  rt : ∀ p ∈ ps, IsRow p.1 p.2
  wd : ∀ p ∈ ps, p.1.length = w
  eq : ∀ (k : Nat) p, ps[k]? = some p → ∀ i, nth p.1 i * D = Y k i * p.2
structure TabIs (X : List (List Int)) (Z : Int) (Y : Mt) (D : Int) (n w : Nat) : Prop where
  tab : IsTab X Z w
  len : X.length = n
  eq : ∀ k, k < n → ∀ i, i < w → matOf X k i * D = Y k i * Z
  xle : ∀ k, k < n → ∀ i, i < w → (matOf X k i).natAbs ≤ (Y k i).natAbs
  ble : Z.natAbs ≤ D.natAbs
theorem TabIs.uniq {X X' : List (List Int)} {Z Z' : Int} {Y : Mt} {D : Int} {n w : Nat} (h : TabIs X Z Y D n w) (h' : TabIs X' Z' Y D n w) (hD : D ≠ 0) : X = X' ∧ Z = Z' := tab_uniq h.tab h'.tab rfl (by rw [h.len, h'.len]) fun k hk i hi => by
  have hk := h.len ▸ hk
  refine Int.eq_of_mul_eq_mul_right hD ?_
  rw [Int.mul_right_comm, h.eq k hk i hi, Int.mul_right_comm (matOf X' k i), h'.eq k hk i hi, Int.mul_right_comm]
theorem OverR.dvd {ps : List (List Int × Int)} {Y : Mt} {D : Int} {w : Nat} (h : OverR ps Y D w) {p : List Int × Int} (hp : p ∈ ps) : p.2 ∣ D := by
  obtain ⟨k, hk⟩ := List.mem_iff_getElem?.mp hp
  have r := h.rt p hp
  have half : ∀ D' : Int, 0 ≤ D' → (∀ i, p.2 ∣ nth p.1 i * D') → p.2 ∣ D' := fun D' h0 hd => by
    have h1 := gcdL_mul p.1 p.2 D' h0 (Int.le_of_lt r.pos)
    rw [r.low, Int.one_mul] at h1
    rw [← h1]
    refine dvd_gcdL _ _ _ (Int.dvd_mul_right _ _) fun z hz => ?_
    obtain ⟨u, hu, rfl⟩ := List.mem_map.mp hz
    obtain ⟨i, _, rfl⟩ := mem_nth hu
    exact hd i
  have hd : ∀ i, p.2 ∣ nth p.1 i * D := fun i => by rw [h.eq k p hk i]; exact Int.dvd_mul_left _ _
  rcases Int.le_total 0 D with h0 | h0
  · exact half D h0 hd
  · have := half (-D) (by omega) fun i => by rw [Int.mul_neg]; exact (Int.dvd_neg).mpr (hd i)
    exact (Int.dvd_neg).mp this
section
variable {P : Pg} {fu d : Nat}
end
end GW
set_option exponentiation.threshold 20000
/-! Core 81: tables turned round, in plain numbers. -/
namespace GW
open PySem
def turnR (rs : List (List Int)) (n k : Nat) : List Int := rs.getD k [] ++ unitL n k
def turnU (rs : List (List Int)) (n : Nat) : List (List Int) := (List.range n).map (turnR rs n)
section
variable {rs : List (List Int)} {n : Nat}
theorem turn_len : (turnU rs n).length = n := by simp [turnU]
theorem turn_get {k : Nat} (hk : k < n) : (turnU rs n).getD k [] = turnR rs n k := by
  unfold turnU
  rw [List.getD_eq_getElem?_getD, List.getElem?_map, List.getElem?_range hk]; rfl
theorem turn_row (hw : ∀ r ∈ rs, r.length = n) (hl : rs.length = n) {k : Nat} (hk : k < n) : (turnR rs n k).length = n + n := by
  unfold turnR
  rw [List.length_append, hw _ (getD_mem (by omega)), unitL_len hk]
theorem turn_wd (hw : ∀ r ∈ rs, r.length = n) (hl : rs.length = n) : ∀ r ∈ turnU rs n, r.length = n + n := fun r hr => by
  obtain ⟨k, hk, rfl⟩ := List.mem_map.mp hr
  exact turn_row hw hl (List.mem_range.mp hk)
theorem turn_left (hw : ∀ r ∈ rs, r.length = n) (hl : rs.length = n) {k i : Nat} (hk : k < n) (hi : i < n) : matOf (turnU rs n) k i = matOf rs k i := by
  have e := hw _ (getD_mem (show k < rs.length by omega))
  unfold matOf
  rw [turn_get hk]
  unfold turnR
  rw [nth_app_l (by omega)]
theorem turn_unit (hw : ∀ r ∈ rs, r.length = n) (hl : rs.length = n) {k i : Nat} (hk : k < n) : matOf (turnU rs n) k (n + i) = if i = k then 1 else 0 := by
  have e := hw _ (getD_mem (show k < rs.length by omega))
  unfold matOf
  rw [turn_get hk]
  unfold turnR
  have h := nth_app_r (a := rs.getD k []) (b := unitL n k) (i := i)
  rw [e] at h
  rw [h, nth_unitL hk]
theorem inc_gap : ∀ {ps : List Nat}, ps.Pairwise (· < ·) → ∀ (m i : Nat) (p q : Nat), ps[i]? = some p → ps[i + m]? = some q → p + m ≤ q
  | ps, h, 0, i, p, q, hp, hq => by rw [Nat.add_zero] at hq; rw [hp] at hq; cases hq; omega
  | ps, h, m + 1, i, p, q, hp, hq => by
    have hl := (List.getElem?_eq_some_iff.mp hq).1
    have hr : ps[i + m]? = some (ps[i + m]'(by omega)) := List.getElem?_eq_getElem (by omega)
    have ih := inc_gap h m i p _ hp hr
    have hq' := (List.getElem?_eq_some_iff.mp hq).2
    have := List.pairwise_iff_getElem.mp h (i + m) (i + (m + 1)) (by omega) hl (by omega)
    omega
theorem inc_all {ps : List Nat} (h : ps.Pairwise (· < ·)) (hl : ps.length = n) (hn : ∀ p ∈ ps, p < n) {k : Nat} (hk : k < n) : ps[k]? = some k := by
  have hk' : ps[k]? = some (ps[k]'(by omega)) := List.getElem?_eq_getElem (by omega)
  have h0 : ps[0]? = some (ps[0]'(by omega)) := List.getElem?_eq_getElem (by omega)
  have hz : ps[n - 1]? = some (ps[n - 1]'(by omega)) := List.getElem?_eq_getElem (by omega)
  have a := inc_gap h k 0 _ _ h0 (by rw [Nat.zero_add]; exact hk')
  have b := inc_gap h (n - 1 - k) k _ _ hk' (by rw [show k + (n - 1 - k) = n - 1 by omega]; exact hz)
  have c := hn _ (List.mem_of_getElem? hz)
  rw [hk']
  congr 1
  omega
structure Full (rs : List (List Int)) (n : Nat) : Prop where
  pl : ∀ k, k < n → (sweep (turnU rs n) n).2.1[k]? = some k
  dl : (sweep (turnU rs n) n).1.length = n
  row : ∀ k r, (sweep (turnU rs n) n).1[k]? = some r → r.length = n + n ∧ nth r k ≠ 0 ∧ ∀ i, i < n → sumN n (fun j => nth r (n + j) * matOf rs j i) = if i = k then nth r k else 0
theorem full_of (hw : ∀ r ∈ rs, r.length = n) (hl : rs.length = n) (h : (sweep (turnU rs n) n).2.1.length = n) : Full rs n := by
  have wd := turn_wd hw hl
  have s := sweep_sw wd n
  have pl := fun k hk => inc_all s.inc h s.lt (k := k) hk
  refine ⟨pl, by rw [s.len]; exact h, fun k r hr => ?_⟩
  have hk : k < n := by have := (List.getElem?_eq_some_iff.mp hr).1; have := s.len; omega
  obtain ⟨r0, rz, ro⟩ := s.piv k r k hr (pl k hk)
  have lin := aug_lin (R := turnU rs n) (m := n) (n := n) turn_len (fun k hk i hi => turn_unit hw hl hk) (rest := r) fun x _ hx => ((s.ker x).mp hx).1 r (List.mem_of_getElem? hr)
  refine ⟨s.dw r (List.mem_of_getElem? hr), r0, fun i hi => ?_⟩
  rw [sumN_congr (g := fun j => nth r (n + j) * matOf (turnU rs n) j i) fun j hj => by rw [turn_left hw hl hj hi], ← lin i hi]
  split
  · rename_i e; rw [e]
  · rename_i e; exact ro i i (pl i hi) e
theorem full_det (h : Full rs n) : det n (matOf rs) ≠ 0 := by
  have get : ∀ k, k < n → ∃ r, (sweep (turnU rs n) n).1[k]? = some r ∧ (sweep (turnU rs n) n).1.getD k [] = r := fun k hk => by
    have := h.dl
    refine ⟨(sweep (turnU rs n) n).1[k]'(by omega), List.getElem?_eq_getElem (by omega), ?_⟩
    rw [List.getD_eq_getElem?_getD, List.getElem?_eq_getElem (by omega)]; rfl
  refine det_ne (U := fun k j => nth ((sweep (turnU rs n) n).1.getD k []) (n + j)) (p := fun k => nth ((sweep (turnU rs n) n).1.getD k []) k) (fun k hk => ?_) fun k hk i hi => ?_
  · obtain ⟨r, h1, h2⟩ := get k hk
    rw [h2]; exact (h.row k r h1).2.1
  · obtain ⟨r, h1, h2⟩ := get k hk
    rw [h2]; exact (h.row k r h1).2.2 i hi
theorem short_ker (hw : ∀ r ∈ rs, r.length = n) (hl : rs.length = n) (h : (sweep (turnU rs n) n).2.1.length < n) : ∃ c : Nat → Int, (∃ i, i < n ∧ c i ≠ 0) ∧ (∀ i, n ≤ i → c i = 0) ∧ ∀ j, j < n → cmb n (matOf rs) c j = 0 := by
  have wd := turn_wd hw hl
  have s := sweep_sw wd n
  obtain ⟨P, o, g⟩ := sweep_gh wd n
  rw [turn_len] at g
  have tl := s.tot
  have hsl := s.len
  rw [turn_len] at tl
  have hr : (sweep (turnU rs n) n).2.2[0]? = some ((sweep (turnU rs n) n).2.2[0]'(by omega)) := List.getElem?_eq_getElem (by omega)
  have ol := g.ol
  have hq : o[0]? = some (o[0]'(by omega)) := List.getElem?_eq_getElem (by omega)
  generalize (sweep (turnU rs n) n).2.2[0]'(by omega) = r at hr
  generalize o[0]'(by omega) = q at hq
  obtain ⟨t, c, t0, cq, cz, ce⟩ := g.lc 0 r q hr hq
  have qn := g.ob q (List.mem_append_right _ (List.mem_of_getElem? hq))
  refine ⟨c, ⟨q, qn, cq⟩, fun i hi => cz i (fun hm => by have := g.ob i (List.mem_append_left _ hm); omega) (by omega), fun j hj => ?_⟩
  have e := ce j
  rw [s.lz r (List.mem_of_getElem? hr) j hj, Int.mul_zero] at e
  unfold cmb at e ⊢
  rw [e]
  exact sumN_congr fun i hi => by rw [turn_left hw hl hi hj]
structure Turned (rs : List (List Int)) (b : Int) (n : Nat) (X : List (List Int)) (Z : Int) : Prop where
  tab : IsTab X Z n
  len : X.length = n
  right : ∀ i, i < n → ∀ l, l < n → sumN n (fun j => matOf rs i j * matOf X j l) = if i = l then b * Z else 0
  left : ∀ i, i < n → ∀ l, l < n → sumN n (fun j => matOf X i j * matOf rs j l) = if i = l then b * Z else 0
def turnY (rs : List (List Int)) (b : Int) (n : Nat) : Mt := fun k i => if i < n then b * cof n (matOf rs) i k else 0
structure TurnG (rs : List (List Int)) (b : Int) (n : Nat) (Y : Mt) (D : Int) : Prop where
  b9 : RowsLt 9000 (turnU rs n)
  sw : ∀ k, k ≤ n → RowsLt 4400 (sweep (turnU rs n) k).1 ∧ RowsLt 4400 (sweep (turnU rs n) k).2.2
  sm : ∀ r ∈ (sweep (turnU rs n) n).1, ∀ i, (b * nth r i).natAbs < 2 ^ 4400
  dt : D.natAbs < 2 ^ 4400
  cf : ∀ k i, (Y k i).natAbs < 2 ^ 4400
  so : Sound rs n
  d0 : det n (matOf rs) ≠ 0 → D ≠ 0
  out : ∀ k i, n ≤ i → Y k i = 0
  rel : ∀ k i, k < n → i < n → Y k i * det n (matOf rs) = turnY rs b n k i * D
def TurnS (rs : List (List Int)) (b : Int) (n : Nat) : Prop := ∃ Y D, TurnG rs b n Y D
theorem TurnS.so {rs : List (List Int)} {b : Int} {n : Nat} (h : TurnS rs b n) : Sound rs n := by
  obtain ⟨Y, D, h⟩ := h
  exact h.so
theorem mat_le {z : Nat} (h : RowsLt z rs) (i j : Nat) : (matOf rs i j).natAbs ≤ 2 ^ z := by
  by_cases hi : i < rs.length
  · exact mat_abs h hi j
  · unfold matOf; rw [List.getD_eq_getElem?_getD, List.getElem?_eq_none (by omega)]
    show (nth [] j).natAbs ≤ _
    rw [nth_nil]; exact Nat.zero_le _
theorem sum_delta {n : Nat} {k : Nat} (hk : k < n) (f : Nat → Int) (c : Int) : sumN n (fun j => f j * if j = k then c else 0) = f k * c := by
  rw [sumN_one hk fun j _ ne => by rw [if_neg ne, Int.mul_zero], if_pos rfl]
theorem sum_delta' {n : Nat} {k : Nat} (hk : k < n) (f : Nat → Int) (c : Int) : sumN n (fun j => (if k = j then c else 0) * f j) = c * f k := by
  rw [sumN_one hk fun j _ ne => by rw [if_neg (Ne.symm ne), Int.zero_mul], if_pos rfl]
theorem Turned.uniq {b : Int} {X X' : List (List Int)} {Z Z' : Int} (hb : b ≠ 0) (h : Turned rs b n X Z) (h' : Turned rs b n X' Z') : X = X' ∧ Z = Z' := tab_uniq h.tab h'.tab rfl (by rw [h.len, h'.len]) fun k hk i hi => by
  have hk : k < n := by rw [h.len] at hk; exact hk
  -- X rs X'
  have e1 : sumN n (fun l => sumN n (fun j => matOf X k j * matOf rs j l) * matOf X' l i) = b * Z * matOf X' k i := by
    rw [sumN_congr (g := fun l => (if k = l then b * Z else 0) * matOf X' l i) fun l hl => by rw [h.left k hk l hl], sum_delta' hk]
  have e2 : sumN n (fun l => sumN n (fun j => matOf X k j * matOf rs j l) * matOf X' l i) = matOf X k i * (b * Z') := by
    rw [sumN_congr (g := fun l => sumN n fun j => matOf X k j * (matOf rs j l * matOf X' l i)) fun l _ => by
      rw [← sumN_mul']; exact sumN_congr fun j _ => by rw [Int.mul_assoc], sumN_swap]
    rw [sumN_congr (g := fun j => matOf X k j * if j = i then b * Z' else 0) fun j hj => by rw [sumN_mul, h'.right j hj i hi], sum_delta hi]
  rw [e1] at e2
  refine Int.eq_of_mul_eq_mul_left hb ?_
  rw [Int.mul_left_comm, ← e2]
  simp only [Int.mul_assoc, Int.mul_comm, Int.mul_left_comm]
theorem Turned.none {b : Int} {X : List (List Int)} {Z : Int} (hb : b ≠ 0) (h : Turned rs b n X Z) {x : List Int} (hx : ∀ i, i < n → sumN n (fun j => matOf rs i j * nth x j) = 0) : ∀ i, i < n → nth x i = 0 := fun i hi => by
  have e1 : sumN n (fun l => sumN n (fun j => matOf X i j * matOf rs j l) * nth x l) = b * Z * nth x i := by
    rw [sumN_congr (g := fun l => (if i = l then b * Z else 0) * nth x l) fun l hl => by rw [h.left i hi l hl], sum_delta' hi]
  have e2 : sumN n (fun l => sumN n (fun j => matOf X i j * matOf rs j l) * nth x l) = 0 := by
    rw [sumN_congr (g := fun l => sumN n fun j => matOf X i j * (matOf rs j l * nth x l)) fun l _ => by
      rw [← sumN_mul']; exact sumN_congr fun j _ => by rw [Int.mul_assoc], sumN_swap]
    exact sumN_zero fun j hj => by rw [sumN_mul, hx j hj, Int.mul_zero]
  rw [e1] at e2
  rcases Int.mul_eq_zero.mp e2 with h1 | h1
  · exact absurd h1 (Int.mul_ne_zero hb (by have := h.tab.pos; omega))
  · exact h1
end
end GW
set_option exponentiation.threshold 20000
/-! Core 82: tables turned round, walked. -/
namespace GW
open PySem
structure cFreeRows2 (kt : Nat) (f : List Val → Store → Res Val) : Prop where
  bad : ∀ S v, Okv S v → isTab v = false → f [v] S = .exc kt [v] S
  ok : ∀ S rs b w (Q : Val → Store → Prop) (X : Xt), IsTab rs b w → Bdd 9000 rs.flatten b → Sound rs w → (∀ T, Keep S T → Q (.lst ((freeRs rs w).map rowP)) T) → W (f [tabV rs b] S) Q X
structure cFreeRowsS (kt : Nat) (f : List Val → Store → Res Val) : Prop where
  ok : ∀ S rs b w (Q : Val → Store → Prop) (X : Xt), IsTab rs b w → Bdd 9000 rs.flatten b → Sound rs w → (∀ v T, Keep S T → seqI T v = some ((freeRs rs w).map rowP) → Q v T) → W (f [tabV rs b] S) Q X
theorem cFreeRows.s {kt : Nat} {f : List Val → Store → Res Val} (h : cFreeRows kt f) : cFreeRowsS kt f := ⟨fun S rs b w Q X t k so hQ => h.ok S rs b w Q X t k so fun l T kp _ e => hQ _ T kp (by unfold seqI; dsimp only; rw [e])⟩
theorem cFreeRows2.s {kt : Nat} {f : List Val → Store → Res Val} (h : cFreeRows2 kt f) : cFreeRowsS kt f := ⟨fun S rs b w Q X t k so hQ => h.ok S rs b w Q X t k so fun T kp => hQ _ T kp rfl⟩
section
variable {P : Pg} {fu d : Nat}
theorem At.fr {i kt : Nat} (h : At P fu d i (cFreeRows kt)) : At P fu d i (cFreeRowsS kt) := fun n hn => (h n hn).s
end
open Classical in
noncomputable def turnX (rs : List (List Int)) (b : Int) (n : Nat) : List (List Int) × Int := if h : ∃ p : List (List Int) × Int, Turned rs b n p.1 p.2 then h.choose else ([], 0)
noncomputable def dirR (rs : List (List Int)) (n : Nat) : List Int × Int := freeR rs n ((frees rs n).headD 0)
theorem Turned.is {rs : List (List Int)} {b : Int} {n : Nat} {X : List (List Int)} {Z : Int} (hb : b ≠ 0) (h : Turned rs b n X Z) : turnX rs b n = (X, Z) := by
  have e : ∃ p : List (List Int) × Int, Turned rs b n p.1 p.2 := ⟨(X, Z), h⟩
  unfold turnX
  rw [dif_pos e]
  obtain ⟨h1, h2⟩ := e.choose_spec.uniq hb h
  exact Prod.ext h1 h2
structure cSquare (kt : Nat) (f : List Val → Store → Res Val) : Prop where
  bad : ∀ S v, Okv S v → isTab v = false → f [v] S = .exc kt [v] S
  nosq : ∀ S rs b w, IsTab rs b w → Bdd 9000 rs.flatten b → rs.length ≠ w → f [tabV rs b] S = .exc kt [tabV rs b] S
  ok : ∀ S rs b w, IsTab rs b w → Bdd 9000 rs.flatten b → rs.length = w → f [tabV rs b] S = .ok .non S
structure cTurned (kt kn : Nat) (f : List Val → Store → Res Val) : Prop where
  bad : ∀ S v, Okv S v → isTab v = false → f [v] S = .exc kt [v] S
  nosq : ∀ S rs b w, IsTab rs b w → Bdd 9000 rs.flatten b → rs.length ≠ w → f [tabV rs b] S = .exc kt [tabV rs b] S
  ok : ∀ S rs b n (Q : Val → Store → Prop) (X : Xt), IsTab rs b n → rs.length = n → Bdd 9000 rs.flatten b → TurnS rs b n → (∀ A Z T, det n (matOf rs) ≠ 0 → Turned rs b n A Z → turnX rs b n = (A, Z) → Bdd 4400 A.flatten Z → Keep S T → Q (tabV A Z) T) → (det n (matOf rs) = 0 → ∀ T, Keep S T → X kn [rowP (dirR rs n)] T) → W (f [tabV rs b] S) Q X
theorem zip_get {α : Type} {xs : List α} {p : α × Nat} (h : p ∈ xs.zipIdx) : xs[p.2]? = some p.1 := by
  obtain ⟨a, i⟩ := p
  exact List.mk_mem_zipIdx_iff_getElem?.mp h
section
variable {P : Pg} {fu d : Nat}
end
end GW
set_option exponentiation.threshold 20000
/-! Core 83: turned tables: products, flipped ones, solutions. -/
namespace GW
open PySem
section
variable {rs ms : List (List Int)} {n w : Nat} {b c : Int}
theorem cols_mat {k i : Nat} (hk : k < w) : matOf (colsL rs w) k i = matOf rs i k := by
  unfold matOf
  rw [List.getD_eq_getElem?_getD, show (colsL rs w)[k]? = some (rs.map fun r => r.getD k 0) by unfold colsL; rw [List.getElem?_map, List.getElem?_range hk]; rfl]
  show nth (rs.map fun r => nth r k) i = _
  by_cases hi : i < rs.length
  · rw [map_nth hi]; rfl
  · rw [nth_ge (by rw [List.length_map]; omega), List.getD_eq_getElem?_getD, List.getElem?_eq_none (by omega)]; exact (nth_nil k).symm
theorem cols_memT (hw : ∀ r ∈ rs, r.length = w) {x : Int} (hx : x ∈ rs.flatten) : x ∈ (colsL rs w).flatten := by
  obtain ⟨r, hr, hx⟩ := List.mem_flatten.mp hx
  obtain ⟨j, hj, rfl⟩ := List.mem_iff_getElem.mp hx
  refine List.mem_flatten.mpr ⟨rs.map fun r => r.getD j 0, List.mem_map.mpr ⟨j, by rw [List.mem_range, ← hw r hr]; exact hj, rfl⟩, List.mem_map.mpr ⟨r, hr, by simp [hj]⟩⟩
theorem IsTab.cols (r : IsTab rs b w) : IsTab (colsL rs w) b rs.length := ⟨by rw [cols_len]; exact r.wlo, by rw [cols_len]; exact r.whi, r.lo, r.hi, fun c hc => cols_row hc, r.pos, by
  obtain ⟨g1, g2⟩ := gcdL_dvd (colsL rs w).flatten b
  have g0 := gcdL_pos (ns := (colsL rs w).flatten) r.pos
  have := dvd_gcdL rs.flatten b _ g1 fun x hx => g2 x (cols_memT r.wd hx)
  rw [r.low] at this
  have := Int.le_of_dvd (by decide) this
  omega⟩
theorem Bdd.cols {k : Nat} (hw : ∀ r ∈ rs, r.length = w) (h : Bdd k rs.flatten b) : Bdd k (colsL rs w).flatten b := ⟨fun x hx => by
  obtain ⟨c, hc, hx⟩ := List.mem_flatten.mp hx
  exact cols_bd hw h.ns hc x hx, h.b⟩
theorem Turned.det {X : List (List Int)} {Z : Int} (hb : b ≠ 0) (h : Turned rs b n X Z) : GW.det n (matOf rs) ≠ 0 := det_ne (U := matOf X) (p := fun _ => b * Z) (fun k _ => Int.mul_ne_zero hb (by have := h.tab.pos; omega)) fun k hk i hi => by
  rw [h.left k hk i hi]
  by_cases e : k = i
  · rw [if_pos e, if_pos e.symm]
  · rw [if_neg e, if_neg (Ne.symm e)]
theorem Turned.flip {X : List (List Int)} {Z : Int} (hw : ∀ r ∈ rs, r.length = n) (hl : rs.length = n) (h : Turned rs b n X Z) : Turned (colsL rs n) b n (colsL X n) Z := by
  have t := h.tab.cols
  rw [h.len] at t
  refine ⟨t, cols_len _ _, fun i hi l hl' => ?_, fun i hi l hl' => ?_⟩
  · rw [sumN_congr (g := fun j => matOf X l j * matOf rs j i) fun j hj => by rw [cols_mat hi, cols_mat hj, Int.mul_comm], h.left l hl' i hi]
    by_cases e : l = i
    · rw [if_pos e, if_pos e.symm]
    · rw [if_neg e, if_neg (Ne.symm e)]
  · rw [sumN_congr (g := fun j => matOf rs l j * matOf X j i) fun j hj => by rw [cols_mat hi, cols_mat hj, Int.mul_comm], h.right l hl' i hi]
    by_cases e : l = i
    · rw [if_pos e, if_pos e.symm]
    · rw [if_neg e, if_neg (Ne.symm e)]
/-! solutions, where the table can be turned round -/
theorem Turned.nosol {X : List (List Int)} {Z : Int} (hb : b ≠ 0) (lr : rs.length = n) (h : Turned rs b n X Z) {ns l : List Int} (q : NoSol rs n ns l) : False := by
  have l0 : ∀ i, i < n → nth l i = 0 := fun i hi => by
    have e1 : sumN n (fun j => sumN n (fun k => nth l k * matOf rs k j) * matOf X j i) = 0 := sumN_zero fun j hj => by
      have := q.ker j hj
      rw [lr] at this
      rw [this, Int.zero_mul]
    have e2 : sumN n (fun j => sumN n (fun k => nth l k * matOf rs k j) * matOf X j i) = nth l i * (b * Z) := by
      rw [sumN_congr (g := fun j => sumN n fun k => nth l k * (matOf rs k j * matOf X j i)) fun j _ => by
        rw [← sumN_mul']; exact sumN_congr fun k _ => by rw [Int.mul_assoc], sumN_swap]
      rw [sumN_congr (g := fun k => nth l k * if k = i then b * Z else 0) fun k hk => by rw [sumN_mul, h.right k hk i hi], sum_delta hi]
    rw [e2] at e1
    rcases Int.mul_eq_zero.mp e1 with h1 | h1
    · exact h1
    · exact absurd h1 (Int.mul_ne_zero hb (by have := h.tab.pos; omega))
  refine q.not (sumN_zero fun k hk => ?_)
  rw [l0 k (by omega), Int.zero_mul]
theorem Turned.sol {X : List (List Int)} {Z : Int} (hb : b ≠ 0) (lr : rs.length = n) (h : Turned rs b n X Z) {ns x : List Int} {z : Int} (hl : ns.length = n) (s : Sol rs b ns c n x z) : ∀ i, i < n → Z * nth x i * c = nth (applI X ns) i * z := fun i hi => by
  rw [dot_row h.tab.wd (by rw [h.len]; exact hi) hl]
  have e1 : sumN n (fun j => matOf X i j * sumN n (fun k => matOf rs j k * nth x k)) = b * Z * nth x i := by
    rw [sumN_congr (g := fun j => sumN n fun k => matOf X i j * matOf rs j k * nth x k) fun j _ => by
      rw [← sumN_mul]; exact sumN_congr fun k _ => by rw [Int.mul_assoc], sumN_swap]
    rw [sumN_congr (g := fun k => (if i = k then b * Z else 0) * nth x k) fun k hk => by rw [sumN_mul', h.left i hi k hk], sum_delta' hi]
  have e2 : sumN n (fun j => matOf X i j * sumN n (fun k => matOf rs j k * nth x k)) * c = b * z * sumN n (fun j => matOf X i j * nth ns j) := by
    rw [← sumN_mul', ← sumN_mul]
    refine sumN_congr fun j hj => ?_
    rw [Int.mul_assoc, s.eq j (by omega)]
    simp only [Int.mul_assoc, Int.mul_comm, Int.mul_left_comm]
  rw [e1] at e2
  refine Int.eq_of_mul_eq_mul_left hb ?_
  rw [show b * (Z * nth x i * c) = b * Z * nth x i * c by simp only [Int.mul_assoc], e2]
  simp only [Int.mul_assoc, Int.mul_comm, Int.mul_left_comm]
end
end GW
set_option exponentiation.threshold 20000
/-! Core 84: the laws' own sums of tables and rows. -/
namespace GW
open PySem
-- np nn = 2 6
-- np nn = 1 2
-- np nn = 1 2
-- np nn = 2 5
structure cLTurned (f : List Val → Store → Res Val) : Prop where
  ok : ∀ S rs b n (Q : Val → Store → Prop) (X : Xt), IsTab rs b n → rs.length = n → Bdd 9000 rs.flatten b → TurnS rs b n → (∀ A Z T, det n (matOf rs) ≠ 0 → Turned rs b n A Z → turnX rs b n = (A, Z) → Bdd 4400 A.flatten Z → Keep S T → Q (tabV A Z) T) → (det n (matOf rs) = 0 → ∀ T, Keep S T → Q .non T) → W (f [tabV rs b] S) Q X
section
variable {P : Pg} {fu d : Nat}
end
end GW
set_option exponentiation.threshold 20000
/-! Core 85: a table turned round may be turned back. -/
namespace GW
open PySem
section
variable {rs A : List (List Int)} {n : Nat} {b Z : Int}
theorem Turned.back (hl : rs.length = n) (t : IsTab rs b n) (h : Turned rs b n A Z) : Turned A Z n rs b :=
  ⟨t, hl, fun i hi l hl => by rw [h.left i hi l hl, Int.mul_comm], fun i hi l hl => by rw [h.right i hi l hl, Int.mul_comm]⟩
theorem Turned.adj (h : Turned rs b n A Z) {k i : Nat} (hk : k < n) (hi : i < n) : matOf A k i * GW.det n (matOf rs) = b * Z * cof n (matOf rs) i k := by
  have e1 : sumN n (fun j => sumN n (fun m => matOf A k m * matOf rs m j) * cof n (matOf rs) i j) = b * Z * cof n (matOf rs) i k := by
    rw [sumN_congr (g := fun j => (if k = j then b * Z else 0) * cof n (matOf rs) i j) fun j hj => by rw [h.left k hk j hj], sum_delta' hk]
  rw [← e1, sumN_congr (g := fun j => sumN n fun m => matOf A k m * (matOf rs m j * cof n (matOf rs) i j)) fun j _ => by
    rw [← sumN_mul']
    exact sumN_congr fun m _ => by rw [Int.mul_assoc], sumN_swap]
  rw [sumN_congr (g := fun m => matOf A k m * if m = i then GW.det n (matOf rs) else 0) fun m hm => by rw [sumN_mul, cof_sum hi _ hm], sum_delta hi]
theorem tab_dvd {X : List (List Int)} {w : Nat} (t : IsTab X Z w) {D : Int} (e : ∀ k, k < X.length → ∀ i, i < w → Z ∣ matOf X k i * D) : Z ∣ D := by
  have h1 := gcdL_mul X.flatten Z (D.natAbs : Int) (by omega) (Int.le_of_lt t.pos)
  rw [t.low, Int.one_mul] at h1
  refine Int.dvd_natAbs.mp ?_
  rw [← h1]
  refine dvd_gcdL _ _ _ (Int.dvd_mul_right _ _) fun z hz => ?_
  obtain ⟨u, hu, rfl⟩ := List.mem_map.mp hz
  obtain ⟨r, hr, hu⟩ := List.mem_flatten.mp hu
  obtain ⟨k, hk⟩ := List.mem_iff_getElem?.mp hr
  obtain ⟨i, hi, rfl⟩ := mem_nth hu
  have hkl := (List.getElem?_eq_some_iff.mp hk).1
  have := e k hkl i (by rw [t.wd r hr] at hi; exact hi)
  rw [mat_of_get hk] at this
  have h2 := Int.natAbs_dvd_natAbs.mpr this
  refine Int.natAbs_dvd_natAbs.mp ?_
  rw [Int.natAbs_mul] at h2 ⊢
  exact h2
theorem Turned.dvd (h : Turned rs b n A Z) : Z ∣ GW.det n (matOf rs) := tab_dvd h.tab fun k hk i hi => by
  rw [h.len] at hk
  rw [h.adj hk hi, Int.mul_comm b, Int.mul_assoc]
  exact Int.dvd_mul_right _ _
end
end GW
set_option exponentiation.threshold 20000
/-! Core 86: tables looked at, the later way. -/
namespace GW
open PySem
section
variable {P : Pg} {fu d : Nat}
end
end GW
set_option exponentiation.threshold 20000
/-! Core 87: a table taken apart step by step. -/
namespace GW
open PySem
theorem map_inj {α β : Type} {f : α → β} (h : ∀ x y, f x = f y → x = y) : ∀ {xs ys : List α}, xs.map f = ys.map f → xs = ys
  | [], [], _ => rfl
  | [], _ :: _, e => by simp at e
  | _ :: _, [], e => by simp at e
  | x :: xs, y :: ys, e => by
    rw [List.map_cons, List.map_cons] at e
    injection e with e1 e2
    rw [h x y e1, map_inj h e2]
theorem tI_inj {x y : List Int} (h : tI x = tI y) : x = y := by
  unfold tI at h
  injection h with h
  exact map_inj (fun a b e => by injection e) h
theorem tabV_inj {rs ms : List (List Int)} {b c : Int} (h : tabV rs b = tabV ms c) : rs = ms ∧ b = c := by
  unfold tabV at h
  injection h with h
  injection h with h1 h2
  injection h1 with h1
  injection h2 with h2 _
  injection h2 with h2
  exact ⟨map_inj (fun _ _ => tI_inj) h1, h2⟩
def shP (rs : List (List Int)) (b : Int) : List (List Int) × Int := (cutT (gcdL rs.flatten b) rs, b.fdiv (gcdL rs.flatten b))
theorem shP_v (rs : List (List Int)) (b : Int) : shortT rs b = tabV (shP rs b).1 (shP rs b).2 := rfl
theorem shP_is {rs : List (List Int)} {b : Int} {w k : Nat} (h1 : 1 ≤ rs.length) (h2 : rs.length ≤ 12) (w1 : 1 ≤ w) (w2 : w ≤ 12) (hw : ∀ r ∈ rs, r.length = w) (hb : 0 < b) (hk : Bdd k rs.flatten b) : IsTab (shP rs b).1 (shP rs b).2 w ∧ (shP rs b).1.length = rs.length ∧ Bdd k (shP rs b).1.flatten (shP rs b).2 ∧ ∀ i j, matOf (shP rs b).1 i j * b = matOf rs i j * (shP rs b).2 := by
  obtain ⟨ms, c, e, t, l, kb, m, _⟩ := shortT_val h1 h2 w1 w2 hw hb hk
  rw [shP_v] at e
  obtain ⟨rfl, rfl⟩ := tabV_inj e
  exact ⟨t, l, kb, m⟩
def schR (r col : List Int) (pv ck : Int) : List Int := (r.zip col).map fun p => p.1 * pv - ck * p.2
def schK (m : Nat) (rs : List (List Int)) : List (List Int) := rs.zipIdx.map fun q => schR q.1 (rs.getD m []) (nth (rs.getD m []) m) (nth (rs.getD m []) q.2)
structure Stg where
  st : List ((Int × Int) × (List Int × Int))
  sp : Option Nat
  tb : List (List Int)
  bt : Int
noncomputable def stp (m : Nat) (s : Stg) : Stg := match s.sp with
  | some _ => s
  | none => if nth (s.tb.getD m []) m < 0 ∨ (nth (s.tb.getD m []) m = 0 ∧ ¬ ∀ x ∈ s.tb.getD m [], x = 0) then { s with sp := some m }
    else if 0 < nth (s.tb.getD m []) m then ⟨s.st ++ [(lowP (nth (s.tb.getD m []) m) s.bt, rowOf (s.tb.getD m []) (nth (s.tb.getD m []) m))], none, (shP (schK m s.tb) (s.bt * nth (s.tb.getD m []) m)).1, (shP (schK m s.tb) (s.bt * nth (s.tb.getD m []) m)).2⟩
    else s
noncomputable def stg (rs : List (List Int)) (b : Int) : Nat → Stg
  | 0 => ⟨[], none, rs, b⟩
  | m + 1 => stp m (stg rs b m)
def StB (rs : List (List Int)) (b : Int) (n : Nat) : Prop := ∀ m, m ≤ n → Bdd 2000 (stg rs b m).tb.flatten (stg rs b m).bt
def stepV (p : (Int × Int) × (List Int × Int)) : Val := .tup [ratV p.1, rowP p.2]
section
variable {rs : List (List Int)} {b : Int} {n : Nat}
theorem schK_len (m : Nat) (rs : List (List Int)) : (schK m rs).length = rs.length := by simp [schK]
theorem schK_mem {m : Nat} {rs : List (List Int)} {x : List Int} (h : x ∈ schK m rs) : ∃ r k, rs[k]? = some r ∧ x = schR r (rs.getD m []) (nth (rs.getD m []) m) (nth (rs.getD m []) k) := by
  unfold schK at h
  obtain ⟨⟨r, k⟩, hq, rfl⟩ := List.mem_map.mp h
  exact ⟨r, k, zip_get hq, rfl⟩
theorem schR_len {r col : List Int} (pv ck : Int) (h : r.length = col.length) : (schR r col pv ck).length = r.length := by simp [schR, h]
theorem nth_schR {r col : List Int} (pv ck : Int) (h : r.length = col.length) (j : Nat) : nth (schR r col pv ck) j = nth r j * pv - ck * nth col j := by
  by_cases hj : j < r.length
  · refine nth_of_get ?_
    unfold schR
    have h1 := nth_get hj
    have h2 := nth_get (show j < col.length by omega)
    have hz : (r.zip col)[j]? = some (nth r j, nth col j) := List.getElem?_zip_eq_some.mpr ⟨h1, h2⟩
    rw [List.getElem?_map, hz]
    rfl
  · rw [nth_ge (by rw [schR_len _ _ h]; omega), nth_ge (by omega), nth_ge (by omega)]; simp
theorem mat_schK {m : Nat} (hw : ∀ r ∈ rs, r.length = n) (hm : m < rs.length) {i : Nat} (hi : i < rs.length) (j : Nat) : matOf (schK m rs) i j = matOf rs i j * matOf rs m m - matOf rs m i * matOf rs m j := by
  obtain ⟨r, hr⟩ : ∃ r, rs[i]? = some r := ⟨_, List.getElem?_eq_getElem hi⟩
  have e : (schK m rs)[i]? = some (schR r (rs.getD m []) (nth (rs.getD m []) m) (nth (rs.getD m []) i)) := by
    unfold schK
    rw [List.getElem?_map, List.getElem?_zipIdx, hr]
    simp
  rw [mat_of_get e, nth_schR _ _ (by rw [hw r (List.mem_of_getElem? hr), hw _ (getD_mem hm)]), mat_of_get hr]
  rfl
theorem sch_bd {m k : Nat} (hw : ∀ r ∈ rs, r.length = n) (hm : m < rs.length) (h : Bdd k rs.flatten b) : Bdd (k + k + 1) (schK m rs).flatten (b * nth (rs.getD m []) m) := by
  have hc := bdd_row h (getD_mem hm)
  have nb : ∀ i, (nth (rs.getD m []) i).natAbs < 2 ^ k := fun i => by
    by_cases hi : i < (rs.getD m []).length
    · exact hc _ (nth_mem hi)
    · rw [nth_ge (by omega)]; exact Nat.two_pow_pos _
  refine ⟨fun x hx => ?_, pow_up (mul_lt h.b (nb m)) (by omega)⟩
  obtain ⟨y, hy, hx⟩ := List.mem_flatten.mp hx
  obtain ⟨r, i, hr, rfl⟩ := schK_mem hy
  obtain ⟨p, hp, rfl⟩ := List.mem_map.mp hx
  obtain ⟨h1, h2⟩ := mem_zip hp
  have a1 := mul_lt (bdd_row h (List.mem_of_getElem? hr) _ h1) (nb m)
  have a2 := mul_lt (nb i) (hc _ h2)
  rw [Nat.pow_succ]
  generalize 2 ^ (k + k) = Z at *
  omega
theorem sch_wd {m : Nat} (hw : ∀ r ∈ rs, r.length = n) (hm : m < rs.length) : ∀ r ∈ schK m rs, r.length = n := fun x hx => by
  obtain ⟨r, i, hr, rfl⟩ := schK_mem hx
  have := hw r (List.mem_of_getElem? hr)
  rw [schR_len _ _ (by rw [this, hw _ (getD_mem hm)]), this]
theorem stp_cases (m : Nat) (s : Stg) (hs : s.sp = none) : (∃ _ : nth (s.tb.getD m []) m < 0 ∨ (nth (s.tb.getD m []) m = 0 ∧ ¬ ∀ x ∈ s.tb.getD m [], x = 0), stp m s = { s with sp := some m }) ∨
    (0 < nth (s.tb.getD m []) m ∧ stp m s = ⟨s.st ++ [(lowP (nth (s.tb.getD m []) m) s.bt, rowOf (s.tb.getD m []) (nth (s.tb.getD m []) m))], none, (shP (schK m s.tb) (s.bt * nth (s.tb.getD m []) m)).1, (shP (schK m s.tb) (s.bt * nth (s.tb.getD m []) m)).2⟩) ∨
    (nth (s.tb.getD m []) m = 0 ∧ (∀ x ∈ s.tb.getD m [], x = 0) ∧ stp m s = s) := by
  unfold stp
  rw [hs]
  dsimp only
  by_cases c1 : nth (s.tb.getD m []) m < 0 ∨ (nth (s.tb.getD m []) m = 0 ∧ ¬ ∀ x ∈ s.tb.getD m [], x = 0)
  · rw [if_pos c1]; exact .inl ⟨c1, rfl⟩
  · rw [if_neg c1]
    by_cases c2 : 0 < nth (s.tb.getD m []) m
    · rw [if_pos c2]; exact .inr (.inl ⟨c2, rfl⟩)
    · rw [if_neg c2]
      refine .inr (.inr ⟨by omega, ?_, rfl⟩)
      exact Classical.byContradiction fun h => c1 (.inr ⟨by omega, h⟩)
end
end GW
set_option exponentiation.threshold 20000
/-! Core 88: stepped, walked. -/
namespace GW
open PySem
section
variable {P : Pg} {fu d : Nat}
end
end GW
set_option exponentiation.threshold 20000
/-! Core 89: spreads told from their steps. -/
namespace GW
open PySem
structure Spr (rs : List (List Int)) (b : Int) (n : Nat) : Prop where
  tab : IsTab rs b n
  len : rs.length = n
  mir : colsL rs n = rs
  bd : StB rs b n
  sp : (stg rs b n).sp = none
theorem Spr.b0 {rs : List (List Int)} {b : Int} {n : Nat} (h : Spr rs b n) : Bdd 2000 rs.flatten b := h.bd 0 (Nat.zero_le _)
structure GoodStep (p : (Int × Int) × (List Int × Int)) (n q : Nat) : Prop where
  rat : IsR p.1.1 p.1.2
  top : 1 ≤ p.1.1
  row : IsRow p.2.1 p.2.2
  len : p.2.1.length = n
  qn : q < n
  ahd : ∀ i, i < q → nth p.2.1 i = 0
  one : nth p.2.1 q = p.2.2
  bd : Bdd 2000 p.2.1 p.2.2
  rb : p.1.1.natAbs < 2 ^ 2000 ∧ p.1.2.natAbs < 2 ^ 2000
def nzs (x : List Int) : List Nat := (x.zipIdx.filter fun p => !decide (p.1 = 0)).map (·.2)
theorem nzs_head {x : List Int} {q : Nat} (hq : q < x.length) (h0 : ∀ i, i < q → nth x i = 0) (h1 : nth x q ≠ 0) : ∃ t, nzs x = q :: t := by
  have key : ∀ (x : List Int) (q k : Nat), q < x.length → (∀ i, i < q → nth x i = 0) → nth x q ≠ 0 → ∃ t, ((x.zipIdx k).filter fun p => !decide (p.1 = 0)).map (·.2) = (k + q) :: t := by
    intro x
    induction x with
    | nil => intro q k h; simp at h
    | cons a x ih =>
      intro q k hq h0 h1
      rw [List.zipIdx_cons]
      cases q with
      | zero =>
        have ha : a ≠ 0 := by simpa [nth] using h1
        rw [List.filter_cons_of_pos (by simpa using ha)]
        exact ⟨_, rfl⟩
      | succ q =>
        have ha : a = 0 := by simpa [nth] using h0 0 (Nat.succ_pos q)
        rw [List.filter_cons_of_neg (by simpa using ha)]
        obtain ⟨t, e⟩ := ih q (k + 1) (by simpa using hq) (fun i hi => by
          have := h0 (i + 1) (Nat.succ_lt_succ hi)
          simpa [nth] using this) (by simpa [nth] using h1)
        exact ⟨t, by rw [e, show k + 1 + q = k + (q + 1) by omega]⟩
  obtain ⟨t, e⟩ := key x q 0 hq h0 h1
  exact ⟨t, by unfold nzs; rw [e, Nat.zero_add]⟩
section
variable {O : Om} {S : Store} {Q : List Val → Store → Prop} {X : Xt}
end
section
variable {P : Pg} {fu d : Nat}
end
end GW
set_option exponentiation.threshold 20000
/-! Core 90: tables of numbers over a bottom; sums of steps. -/
namespace GW
open PySem
theorem IsR.uniq {x y x' y' : Int} (h : IsR x y) (h' : IsR x' y') (e : x * y' = x' * y) : x = x' ∧ y = y' := by
  have r : ∀ {x y : Int}, IsR x y → IsRow [x] y := fun {x y} h => ⟨Nat.le_refl 1, show 1 ≤ 12 by decide, h.pos, by
    have := h.low
    unfold gcdL
    simp only [List.foldl_cons, List.foldl_nil]
    rw [Int.gcd_comm, this]; rfl⟩
  obtain ⟨e1, e2⟩ := row_uniq (r h) (r h') rfl fun i => by
    cases i with
    | zero => exact e
    | succ i => rw [nth_ge (by simp), nth_ge (by simp)]; simp
  exact ⟨by simpa using e1, e2⟩
structure Frc (F : List (List Int)) (c : Int) (n : Nat) (G : Mt) (E : Int) : Prop where
  tab : IsTab F c n
  len : F.length = n
  eq : ∀ i, i < n → ∀ j, j < n → matOf F i j * E = G i j * c
section
variable {F F' : List (List Int)} {c c' : Int} {n : Nat} {G G' : Mt} {E E' : Int}
theorem Frc.uniq (h : Frc F c n G E) (h' : Frc F' c' n G E) (hE : E ≠ 0) : F = F' ∧ c = c' := tab_uniq h.tab h'.tab rfl (by rw [h.len, h'.len]) fun k hk i hi => by
  have hk := h.len ▸ hk
  refine Int.eq_of_mul_eq_mul_right hE ?_
  rw [Int.mul_right_comm, h.eq k hk i hi, Int.mul_right_comm (matOf F' k i), h'.eq k hk i hi, Int.mul_right_comm]
theorem Frc.dvd (h : Frc F c n G E) : c ∣ E := tab_dvd h.tab fun k hk i hi => by
  rw [h.eq k (h.len ▸ hk) i hi]
  exact Int.dvd_mul_left _ _
theorem Frc.cle (h : Frc F c n G E) (hE : E ≠ 0) : c.natAbs ≤ E.natAbs := Nat.le_of_dvd (by omega) (Int.natAbs_dvd_natAbs.mpr h.dvd)
theorem Frc.fle (h : Frc F c n G E) (hE : E ≠ 0) {i j : Nat} (hi : i < n) (hj : j < n) : (matOf F i j).natAbs ≤ (G i j).natAbs := by
  have e := congrArg Int.natAbs (h.eq i hi j hj)
  rw [Int.natAbs_mul, Int.natAbs_mul] at e
  refine Nat.le_of_mul_le_mul_right ?_ (show 0 < E.natAbs by omega)
  rw [e]
  exact Nat.mul_le_mul_left _ (h.cle hE)
theorem Frc.bd {k : Nat} (h : Frc F c n G E) (hE : E ≠ 0) (hG : ∀ i, i < n → ∀ j, j < n → (G i j).natAbs < 2 ^ k) (hk : E.natAbs < 2 ^ k) : Bdd k F.flatten c := by
  refine ⟨fun x hx => ?_, Nat.lt_of_le_of_lt (h.cle hE) hk⟩
  obtain ⟨r, hr, hx⟩ := List.mem_flatten.mp hx
  obtain ⟨i, hi⟩ := List.mem_iff_getElem?.mp hr
  obtain ⟨j, hj, rfl⟩ := mem_nth hx
  have hin := (List.getElem?_eq_some_iff.mp hi).1
  have hin : i < n := h.len ▸ hin
  have hjn : j < n := by rw [← h.tab.wd r hr]; exact hj
  rw [← mat_of_get hi]
  exact Nat.lt_of_le_of_lt (h.fle hE hin hjn) (hG i hin j hjn)
theorem Frc.conv (h : Frc F c n G E) (hE : E ≠ 0) (e : ∀ i, i < n → ∀ j, j < n → G i j * E' = G' i j * E) : Frc F c n G' E' := ⟨h.tab, h.len, fun i hi j hj => by
  refine Int.eq_of_mul_eq_mul_right hE ?_
  rw [Int.mul_right_comm, h.eq i hi j hj, Int.mul_right_comm, e i hi j hj, Int.mul_right_comm]⟩
theorem Frc.mir (h : Frc F c n G E) (hE : E ≠ 0) (hs : ∀ i j, G i j = G j i) : colsL F n = F := by
  refine tab_ext (w := n) (by rw [cols_len, h.len]) (fun r hr => by rw [cols_row hr, h.len]) h.tab.wd fun k hk i hi => ?_
  rw [cols_len] at hk
  rw [cols_mat hk]
  refine Int.eq_of_mul_eq_mul_right hE ?_
  rw [h.eq i hi k hk, h.eq k hk i hi, hs]
end
/-! sums of steps: t times w w, over the bottom -/
abbrev Ds := Int × List Int × Nat
structure DOk (n : Nat) (u : Int) (s : Ds) : Prop where
  t1 : 1 ≤ s.1
  wl : s.2.1.length = n
  qn : s.2.2 < n
  one : nth s.2.1 s.2.2 = u
  ahd : ∀ i, i < s.2.2 → nth s.2.1 i = 0
def dsum (ws : List Ds) : Mt := fun i j => (ws.map fun s => s.1 * nth s.2.1 i * nth s.2.1 j).sum
noncomputable def stepOf (un u : Int) (s : Ds) : (Int × Int) × (List Int × Int) := (lowP s.1 un, rowOf s.2.1 u)
structure DsOk (n : Nat) (un u : Int) (ws : List Ds) : Prop where
  un0 : 0 < un
  u0 : 0 < u
  ok : ∀ s ∈ ws, DOk n u s
  inc : ws.Pairwise fun a b => a.2.2 < b.2.2
theorem dsum_cons (s : Ds) (ws : List Ds) (i j : Nat) : dsum (s :: ws) i j = s.1 * nth s.2.1 i * nth s.2.1 j + dsum ws i j := by simp [dsum]
theorem dsum_bd {k : Nat} {n : Nat} : ∀ {ws : List Ds}, (∀ s ∈ ws, s.1.natAbs < 2 ^ k ∧ ∀ i, (nth s.2.1 i).natAbs < 2 ^ k) → ws.length ≤ n → ∀ i j, (dsum ws i j).natAbs ≤ n * 2 ^ (k + k + k)
  | [], _, _, i, j => Nat.zero_le _
  | s :: ws, h, hn, i, j => by
    obtain ⟨m, rfl⟩ : ∃ m, n = m + 1 := ⟨n - 1, by simp at hn; omega⟩
    have ih := dsum_bd (k := k) (n := m) (fun x hx => h x (List.mem_cons_of_mem _ hx)) (by simpa using hn) i j
    obtain ⟨h1, h2⟩ := h s (List.mem_cons_self ..)
    have a := mul_lt (mul_lt h1 (h2 i)) (h2 j)
    rw [dsum_cons, Nat.add_mul, Nat.one_mul]
    generalize 2 ^ (k + k + k) = Z at *
    omega

section
variable {n : Nat} {un u : Int} {c : Int} {F : List (List Int)}
theorem DsOk.tail {s : Ds} {ws : List Ds} (h : DsOk n un u (s :: ws)) : DsOk n un u ws := ⟨h.un0, h.u0, fun x hx => h.ok x (List.mem_cons_of_mem _ hx), (List.pairwise_cons.mp h.inc).2⟩
end
end GW
set_option exponentiation.threshold 20000
/-! Core 91: a sum of steps is a spread, and these are its steps. -/
namespace GW
open PySem
section
variable {n : Nat} {un u : Int} {c : Int} {F : List (List Int)} {ws : List Ds}
theorem DsOk.few (h : DsOk n un u ws) : ws.length ≤ n := by
  have nd : (ws.map fun s => s.2.2).Nodup := by
    refine List.Pairwise.map _ (fun a b (hab : a.2.2 < b.2.2) e => ?_) h.inc
    omega
  have := nd_len nd (V := List.range n) fun i hi => by
    obtain ⟨s, hs, rfl⟩ := List.mem_map.mp hi
    exact List.mem_range.mpr (h.ok s hs).qn
  rw [List.length_map, List.length_range] at this
  exact this
structure DsLt (k : Nat) (un u : Int) (ws : List Ds) : Prop where
  ts : ∀ s ∈ ws, s.1.natAbs < 2 ^ k ∧ ∀ i, (nth s.2.1 i).natAbs < 2 ^ k
  un : un.natAbs < 2 ^ k
  u : u.natAbs < 2 ^ k
theorem DsLt.tail {k : Nat} {s : Ds} (h : DsLt k un u (s :: ws)) : DsLt k un u ws := ⟨fun x hx => h.ts x (List.mem_cons_of_mem _ hx), h.un, h.u⟩
theorem DsLt.E {k : Nat} (h : DsLt k un u ws) : (un * (u * u)).natAbs < 2 ^ (k + k + k + 4) := pow_up (mul_lt h.un (mul_lt h.u h.u)) (by omega)
theorem DsLt.sum {k : Nat} (h : DsLt k un u ws) (o : DsOk n un u ws) (hn : n ≤ 12) (i j : Nat) : (dsum ws i j).natAbs < 2 ^ (k + k + k + 4) := by
  have a := dsum_bd h.ts o.few i j
  rw [Nat.pow_add]
  have : n * 2 ^ (k + k + k) ≤ 12 * 2 ^ (k + k + k) := Nat.mul_le_mul_right _ hn
  have p : 0 < 2 ^ (k + k + k) := Nat.two_pow_pos _
  generalize 2 ^ (k + k + k) = Z at *
  show _ < Z * 16
  omega
end
end GW
set_option exponentiation.threshold 20000
/-! Core 92: steps shown. -/
namespace GW
open PySem
section
variable {n : Nat} {un u : Int} {c : Int} {F : List (List Int)} {ws : List Ds}
theorem DsOk.take (h : DsOk n un u ws) (k : Nat) : DsOk n un u (ws.take k) := ⟨h.un0, h.u0, fun s hs => h.ok s (List.mem_of_mem_take hs), h.inc.sublist (List.take_sublist _ _)⟩
theorem DsLt.take {z : Nat} (h : DsLt z un u ws) (k : Nat) : DsLt z un u (ws.take k) := ⟨fun s hs => h.ts s (List.mem_of_mem_take hs), h.un, h.u⟩
end
section
variable {P : Pg} {fu d : Nat}
end
end GW
set_option exponentiation.threshold 20000
/-! Core 93: how the laws draw steps, and sum them. -/
namespace GW
open PySem
section
variable {P : Pg} {fu d : Nat}
end
end GW
set_option exponentiation.threshold 20000
/-! Core 94: steps summed by a law. -/
namespace GW
open PySem
section
variable {P : Pg} {fu d : Nat}
end
end GW
set_option exponentiation.threshold 20000
/-! Core 95: any table that is alike from both sides, taken apart: its numbers stay small. -/
namespace GW
open PySem
structure Sch (M : Mt) (b : Int) (n : Nat) (P : List Nat) (T : List (List Int)) (c : Int) : Prop where
  tab : IsTab T c n
  len : T.length = n
  lt : ∀ p ∈ P, p < n
  sym : ∀ i, i < n → ∀ j, j < n → matOf T i j = matOf T j i
  zero : ∀ p ∈ P, ∀ j, j < n → matOf T p j = 0
  own : ∀ i, i < n → i ∉ P → ∃ (s : Int) (y : Nat → Int), s ≠ 0 ∧ (∀ k, k ∉ P → y k = 0) ∧ ∀ j, j < n → s * (matOf T i j * b) = c * (s * M i j + cmb n M y j)
  inj : ∀ x : Nat → Int, (∀ i, i ∉ P → x i = 0) → (∀ p ∈ P, cmb n M x p = 0) → ∀ i, x i = 0
section
variable {M : Mt} {b : Int} {n : Nat} {P : List Nat} {T : List (List Int)} {c : Int}
theorem sch0 {rs : List (List Int)} (t : IsTab rs b n) (hl : rs.length = n) (hs : ∀ i, i < n → ∀ j, j < n → matOf rs i j = matOf rs j i) : Sch (matOf rs) b n [] rs b where
  tab := t
  len := hl
  lt := fun p h => (nomatch h)
  sym := hs
  zero := fun p h => (nomatch h)
  own := fun i hi _ => ⟨1, fun _ => 0, by decide, fun _ _ => rfl, fun j hj => by rw [cmb_zero fun _ => rfl]; simp [Int.mul_comm]⟩
  inj := fun x hx _ i => hx i (by simp)
theorem cmb_one {c : Nat → Int} {m : Nat} (hm : m < n) (v : Int) (j : Nat) : cmb n M (fun k => if k = m then v else 0) j = v * M m j := by
  unfold cmb
  rw [sumN_one hm fun i _ ne => by show (if i = m then v else 0) * _ = 0; rw [if_neg ne, Int.zero_mul]]
  show (if m = m then v else 0) * _ = _
  rw [if_pos rfl]
theorem cmb_sub (f g : Nat → Int) (j : Nat) : cmb n M (fun i => f i - g i) j = cmb n M f j - cmb n M g j := by
  unfold cmb
  rw [← sumN_sub]
  exact sumN_congr fun i _ => Int.sub_mul _ _ _
theorem cmb_mul (a : Int) (f : Nat → Int) (j : Nat) : cmb n M (fun i => a * f i) j = a * cmb n M f j := by
  unfold cmb
  rw [← sumN_mul]
  exact sumN_congr fun i _ => Int.mul_assoc _ _ _
theorem cmb_add (f g : Nat → Int) (j : Nat) : cmb n M (fun i => f i + g i) j = cmb n M f j + cmb n M g j := by
  unfold cmb
  rw [← sumN_add]
  exact sumN_congr fun i _ => Int.add_mul _ _ _
theorem Sch.step (hM : ∀ i, i < n → ∀ j, j < n → M i j = M j i) (h : Sch M b n P T c) {m : Nat} (hm : m < n) (hb : b ≠ 0) (hp : 0 < matOf T m m) {T' : List (List Int)} {c' : Int} (t' : IsTab T' c' n) (l' : T'.length = n) (e : ∀ i, i < n → ∀ j, j < n → matOf T' i j * (c * matOf T m m) = (matOf T i j * matOf T m m - matOf T m i * matOf T m j) * c') : Sch M b n (m :: P) T' c' := by
  have c0 := h.tab.pos
  have pv0 : c * matOf T m m ≠ 0 := Int.mul_ne_zero (by omega) (by omega)
  have mP : m ∉ P := fun hmem => by have := h.zero m hmem m hm; omega
  obtain ⟨sm, ym, sm0, ymz, em⟩ := h.own m hm mP
  refine ⟨t', l', fun p hq => ?_, fun i hi j hj => ?_, fun p hq j hj => ?_, fun i hi hiP => ?_, fun x xz xc => ?_⟩
  · rcases List.mem_cons.mp hq with rfl | hq
    · exact hm
    · exact h.lt p hq
  · refine Int.eq_of_mul_eq_mul_right pv0 ?_
    rw [e i hi j hj, e j hj i hi, h.sym i hi j hj, Int.mul_comm (matOf T m i)]
  · have z : matOf T' p j * (c * matOf T m m) = 0 := by
      rcases List.mem_cons.mp hq with rfl | hq
      · rw [e p hm j hj, Int.mul_comm (matOf T p j), Int.sub_self, Int.zero_mul]
      · have hpn := h.lt p hq
        rw [e p hpn j hj, h.zero p hq j hj, h.sym m hm p hpn, h.zero p hq m hm]
        simp
    rcases Int.mul_eq_zero.mp z with z | z
    · exact z
    · exact absurd z pv0
  · have im : i ≠ m := fun z => hiP (by rw [z]; exact List.mem_cons_self ..)
    have iP : i ∉ P := fun z => hiP (List.mem_cons_of_mem _ z)
    obtain ⟨si, yi, si0, yiz, ei⟩ := h.own i hi iP
    refine ⟨si * sm * matOf T m m, fun k => (sm * matOf T m m * yi k - si * matOf T m i * ym k) - (if k = m then si * sm * matOf T m i else 0), Int.mul_ne_zero (Int.mul_ne_zero si0 sm0) (by omega), fun k hk => ?_, fun j hj => ?_⟩
    · have km : k ≠ m := fun z => hk (by rw [z]; exact List.mem_cons_self ..)
      have kP : k ∉ P := fun z => hk (List.mem_cons_of_mem _ z)
      show (sm * matOf T m m * yi k - si * matOf T m i * ym k) - (if k = m then si * sm * matOf T m i else 0) = 0
      rw [if_neg km, yiz k kP, ymz k kP]; simp
    · rw [cmb_sub, cmb_lin, cmb_one (c := ym) hm]
      have e1 := ei j hj
      have e2 := em j hj
      have e3 := e i hi j hj
      generalize matOf T m m = pv at *
      generalize matOf T m i = ti at *
      generalize matOf T m j = tj at *
      generalize matOf T i j = tij at *
      generalize matOf T' i j = u at *
      generalize cmb n M yi j = A at *
      generalize cmb n M ym j = B at *
      refine Int.eq_of_mul_eq_mul_right (show c ≠ 0 by omega) ?_
      have l1 : si * sm * pv * (u * b) * c = si * sm * b * (u * (c * pv)) := by simp only [Int.mul_assoc, Int.mul_comm, Int.mul_left_comm]
      rw [l1, e3]
      have l2 : c' * (si * sm * pv * M i j + (sm * pv * A - si * ti * B - si * sm * ti * M m j)) * c = c' * (sm * pv * (c * (si * M i j + A)) - si * ti * (c * (sm * M m j + B))) := by
        simp only [Int.mul_add, Int.mul_sub, Int.add_mul, Int.sub_mul, Int.mul_assoc, Int.mul_comm, Int.mul_left_comm]
        omega
      rw [l2, ← e1, ← e2]
      simp only [Int.mul_add, Int.mul_sub, Int.add_mul, Int.sub_mul, Int.mul_assoc, Int.mul_comm, Int.mul_left_comm]
  · -- the number at m is nought
    have xm : x m = 0 := by
      have s1 : sumN n (fun j => x j * (sm * (matOf T m j * b))) = c * (sm * sumN n (fun j => x j * M m j) + sumN n (fun j => x j * cmb n M ym j)) := by
        rw [← sumN_mul (f := fun j => x j * M m j), ← sumN_add, ← sumN_mul]
        refine sumN_congr fun j hj => ?_
        rw [em j hj]
        simp only [Int.mul_add, Int.mul_assoc, Int.mul_comm, Int.mul_left_comm]
      have s2 : sumN n (fun j => x j * M m j) = 0 := by
        rw [← xc m (List.mem_cons_self ..)]
        exact sumN_congr fun j hj => by rw [hM m hm j hj]
      have s3 : sumN n (fun j => x j * cmb n M ym j) = 0 := by
        unfold cmb
        rw [sumN_congr (g := fun j => sumN n fun i => ym i * (x j * M i j)) fun j _ => by
          rw [← sumN_mul]
          exact sumN_congr fun i _ => by simp only [Int.mul_assoc, Int.mul_comm, Int.mul_left_comm], sumN_swap]
        refine sumN_zero fun i hi => ?_
        rw [sumN_mul]
        by_cases hiP : i ∈ P
        · have : sumN n (fun j => x j * M i j) = 0 := by
            rw [← xc i (List.mem_cons_of_mem _ hiP)]
            exact sumN_congr fun j hj => by rw [hM i hi j hj]
          rw [this, Int.mul_zero]
        · rw [ymz i hiP, Int.zero_mul]
      have s4 : sumN n (fun j => x j * (sm * (matOf T m j * b))) = x m * (sm * (matOf T m m * b)) := sumN_one hm fun j hj ne => by
        by_cases hjP : j ∈ P
        · rw [h.sym m hm j hj, h.zero j hjP m hm]; simp
        · rw [xz j (fun z => by rcases List.mem_cons.mp z with z | z; exact ne z; exact hjP z), Int.zero_mul]
      rw [s4, s2, s3] at s1
      simp only [Int.mul_zero, Int.add_zero] at s1
      rcases Int.mul_eq_zero.mp s1 with z | z
      · exact z
      · exact absurd z (Int.mul_ne_zero sm0 (Int.mul_ne_zero (by omega) hb))
    refine h.inj x (fun i hi => ?_) fun p hq => xc p (List.mem_cons_of_mem _ hq)
    by_cases im : i = m
    · rw [im]; exact xm
    · exact xz i fun z => by rcases List.mem_cons.mp z with z | z; exact im z; exact hi z
def padM (M : Mt) (P : List Nat) : Mt := fun i j => if i ∈ P ∧ j ∈ P then M i j else if i = j then 1 else 0
def rowsM (n : Nat) (N : Mt) : List (List Int) := (List.range n).map fun i => mkR n (N i)
theorem rowsM_at {N : Mt} {i j : Nat} (hi : i < n) (hj : j < n) : matOf (rowsM n N) i j = N i j := by
  have e : (rowsM n N)[i]? = some (mkR n (N i)) := by unfold rowsM; rw [List.getElem?_map, List.getElem?_range hi]; rfl
  rw [mat_of_get e, nth_mkR hj]
theorem det_of_inj {N : Mt} (h : ∀ x : Nat → Int, (∀ i, n ≤ i → x i = 0) → (∀ j, j < n → cmb n N x j = 0) → ∀ i, x i = 0) : det n N ≠ 0 := by
  have hl : (rowsM n N).length = n := by simp [rowsM]
  have hw : ∀ r ∈ rowsM n N, r.length = n := fun r hr => by
    obtain ⟨i, _, rfl⟩ := List.mem_map.mp hr
    exact mkR_len _ _
  have ed : det n (matOf (rowsM n N)) = det n N := det_congr fun i hi j hj => rowsM_at hi hj
  rw [← ed]
  have s := sweep_sw (turn_wd hw hl) n
  have sl := s.len
  have tl := s.tot
  rw [turn_len] at tl
  by_cases hlt : (sweep (turnU (rowsM n N) n) n).2.1.length < n
  · obtain ⟨c, ⟨q, hq, cq⟩, c0, ck⟩ := short_ker hw hl hlt
    exact absurd (h c c0 (fun j hj => by
      rw [← ck j hj]
      exact sumN_congr fun i hi => by rw [rowsM_at hi hj]) q) cq
  · exact full_det (full_of hw hl (by omega))
theorem cmb_pad {x : Nat → Int} (hx : ∀ i, i ∉ P → x i = 0) {p : Nat} (hp : p ∈ P) : cmb n (padM M P) x p = cmb n M x p := sumN_congr fun i _ => by
  by_cases hi : i ∈ P
  · unfold padM; rw [if_pos ⟨hi, hp⟩]
  · rw [hx i hi, Int.zero_mul, Int.zero_mul]
theorem cmb_pad_off {x : Nat → Int} {j : Nat} (hj : j < n) (hp : j ∉ P) : cmb n (padM M P) x j = x j := by
  unfold cmb
  rw [sumN_one hj fun i _ ne => by
    unfold padM
    rw [if_neg (fun z => hp z.2), if_neg ne, Int.mul_zero]]
  unfold padM
  rw [if_neg (fun z => hp z.2), if_pos rfl, Int.mul_one]
theorem Sch.pad_det (h : Sch M b n P T c) : det n (padM M P) ≠ 0 := det_of_inj fun x xn xc => by
  have off : ∀ i, i ∉ P → x i = 0 := fun i hi => by
    by_cases hin : i < n
    · rw [← cmb_pad_off (M := M) (x := x) hin hi]; exact xc i hin
    · exact xn i (by omega)
  exact h.inj x off fun p hp => by rw [← cmb_pad off hp]; exact xc p (h.lt p hp)
def schZ (M : Mt) (n : Nat) (P : List Nat) (i k : Nat) : Int := sumN n fun q => (if q ∈ P then M i q else 0) * cof n (padM M P) q k
def schG (M : Mt) (n : Nat) (P : List Nat) : Mt := fun i j => if i ∈ P then 0 else det n (padM M P) * M i j - cmb n M (schZ M n P i) j
theorem schZ_pad (hM : ∀ i, i < n → ∀ j, j < n → M i j = M j i) (i : Nat) {l : Nat} (hl : l < n) : cmb n (padM M P) (schZ M n P i) l = (if l ∈ P then M i l else 0) * det n (padM M P) := by
  have sy : ∀ k, k < n → padM M P k l = padM M P l k := fun k hk => by
    unfold padM
    by_cases h1 : k ∈ P ∧ l ∈ P
    · rw [if_pos h1, if_pos ⟨h1.2, h1.1⟩, hM k hk l hl]
    · rw [if_neg h1, if_neg (show ¬ (l ∈ P ∧ k ∈ P) from fun z => h1 ⟨z.2, z.1⟩)]
      by_cases e : k = l
      · rw [if_pos e, if_pos e.symm]
      · rw [if_neg e, if_neg (Ne.symm e)]
  unfold cmb schZ
  rw [sumN_congr (g := fun k => sumN n fun q => (if q ∈ P then M i q else 0) * (padM M P l k * cof n (padM M P) q k)) fun k hk => by
    rw [← sumN_mul']
    exact sumN_congr fun q _ => by rw [sy k hk]; simp only [Int.mul_assoc, Int.mul_comm, Int.mul_left_comm], sumN_swap]
  rw [sumN_congr (g := fun q => (if q ∈ P then M i q else 0) * if l = q then det n (padM M P) else 0) fun q hq => by rw [sumN_mul, cof_sum hq _ hl]]
  rw [sumN_one hl fun q _ ne => by rw [if_neg (Ne.symm ne), Int.mul_zero], if_pos rfl]
theorem Sch.frc (hM : ∀ i, i < n → ∀ j, j < n → M i j = M j i) (h : Sch M b n P T c) (hb : b ≠ 0) : Frc T c n (schG M n P) (det n (padM M P) * b) := by
  have c0 := h.tab.pos
  refine ⟨h.tab, h.len, fun i hi j hj => ?_⟩
  unfold schG
  by_cases hiP : i ∈ P
  · rw [if_pos hiP, h.zero i hiP j hj]; simp
  · rw [if_neg hiP]
    obtain ⟨s, y, s0, yz, e⟩ := h.own i hi hiP
    have zoff : ∀ k, k ∉ P → (if k < n then schZ M n P i k else 0) = 0 := fun k hk => by
      by_cases hkn : k < n
      · rw [if_pos hkn]
        have := schZ_pad (P := P) hM i hkn
        rw [cmb_pad_off hkn hk, if_neg hk, Int.zero_mul] at this
        exact this
      · rw [if_neg hkn]
    have cz : ∀ t, cmb n M (fun k => if k < n then schZ M n P i k else 0) t = cmb n M (schZ M n P i) t := fun t => sumN_congr fun k hk => by
      show (if k < n then schZ M n P i k else 0) * _ = _
      rw [if_pos hk]
    have zp : ∀ p ∈ P, cmb n M (schZ M n P i) p = M i p * det n (padM M P) := fun p hp => by
      have hpn := h.lt p hp
      have e1 := schZ_pad (P := P) hM i hpn
      rw [if_pos hp] at e1
      rw [← e1, ← cz p, ← cmb_pad zoff hp]
      exact sumN_congr fun k hk => by
        show (if k < n then schZ M n P i k else 0) * _ = _
        rw [if_pos hk]
    have key := h.inj (fun k => s * (if k < n then schZ M n P i k else 0) + det n (padM M P) * y k) (fun k hk => by
      show s * (if k < n then schZ M n P i k else 0) + det n (padM M P) * y k = 0
      rw [zoff k hk, yz k hk]; simp) fun p hp => by
      have hpn := h.lt p hp
      rw [cmb_add, cmb_mul, cmb_mul, cz p, zp p hp]
      have e1 := e p hpn
      rw [h.sym i hi p hpn, h.zero p hp i hi, Int.zero_mul, Int.mul_zero] at e1
      have e2 : s * M i p + cmb n M y p = 0 := by
        rcases Int.mul_eq_zero.mp e1.symm with z | z
        · omega
        · exact z
      have e3 : det n (padM M P) * (s * M i p + cmb n M y p) = 0 := by rw [e2, Int.mul_zero]
      rw [Int.mul_add] at e3
      rw [← e3]
      simp only [Int.mul_assoc, Int.mul_comm, Int.mul_left_comm]
    have kj : s * cmb n M (schZ M n P i) j + det n (padM M P) * cmb n M y j = 0 := by
      rw [← cz j, ← cmb_mul, ← cmb_mul, ← cmb_add]
      exact cmb_zero key j
    have ej := e j hj
    generalize cmb n M (schZ M n P i) j = Z at *
    generalize cmb n M y j = Y at *
    generalize det n (padM M P) = D at *
    generalize matOf T i j = t at *
    refine Int.eq_of_mul_eq_mul_right s0 ?_
    have h1 : t * (D * b) * s = D * (s * (t * b)) := by simp only [Int.mul_assoc, Int.mul_comm, Int.mul_left_comm]
    rw [h1, ej]
    have h2 : (D * M i j - Z) * c * s = c * (D * (s * M i j) - s * Z) := by
      simp only [Int.mul_sub, Int.sub_mul, Int.mul_assoc, Int.mul_comm, Int.mul_left_comm]
    rw [h2, show s * Z = -(D * Y) by omega]
    simp only [Int.mul_add, Int.mul_sub, Int.sub_neg, Int.mul_assoc, Int.mul_comm, Int.mul_left_comm]
end
end GW
set_option exponentiation.threshold 20000
/-! Core 96: small at every stage; no stop where nothing is below nought. -/
namespace GW
open PySem
section
variable {M : Mt} {b : Int} {n : Nat} {P : List Nat} {T : List (List Int)} {c : Int}
theorem pad_bd {B : Nat} (hB : 1 ≤ B) (hM : ∀ i, i < n → ∀ j, j < n → (M i j).natAbs ≤ B) : ∀ i, i < n → ∀ j, j < n → (padM M P i j).natAbs ≤ B := fun i hi j hj => by
  unfold padM
  by_cases h : i ∈ P ∧ j ∈ P
  · rw [if_pos h]; exact hM i hi j hj
  · rw [if_neg h]
    by_cases e : i = j
    · rw [if_pos e]; exact hB
    · rw [if_neg e]; exact Nat.zero_le _
theorem sch_lt {K : Nat} (hn : n ≤ 12) (hM : ∀ i, i < n → ∀ j, j < n → (M i j).natAbs ≤ 2 ^ K) {i j : Nat} (hi : i < n) (hj : j < n) : (schG M n P i j).natAbs < 2 ^ ((K + 4) * n + 2 * K + 9) ∧ (det n (padM M P)).natAbs < 2 ^ ((K + 4) * n + 1) := by
  have hB : 1 ≤ 2 ^ K := Nat.one_le_two_pow
  have pb := pad_bd (P := P) hB hM
  have d1 : dbd (2 ^ K) n ≤ 2 ^ ((K + 4) * n) := dbd_le n (by omega)
  have dd := Nat.le_trans (det_bd pb) d1
  refine ⟨?_, Nat.lt_of_le_of_lt dd (Nat.pow_lt_pow_right (by decide) (by omega))⟩
  have zz : ∀ k, (schZ M n P i k).natAbs ≤ 12 * (2 ^ K * 2 ^ ((K + 4) * n)) := fun k => by
    unfold schZ
    refine Nat.le_trans (sumN_abs (B := 2 ^ K * 2 ^ ((K + 4) * n)) fun q hq => ?_) (Nat.mul_le_mul_right _ hn)
    rw [Int.natAbs_mul]
    refine Nat.mul_le_mul ?_ (Nat.le_trans (cof_bd hB pb q k) d1)
    by_cases hp : q ∈ P
    · rw [if_pos hp]; exact hM i hi q hq
    · rw [if_neg hp]; exact Nat.zero_le _
  unfold schG
  by_cases hp : i ∈ P
  · rw [if_pos hp]; exact Nat.two_pow_pos _
  · rw [if_neg hp]
    have c1 : (cmb n M (schZ M n P i) j).natAbs ≤ 12 * (12 * (2 ^ K * 2 ^ ((K + 4) * n)) * 2 ^ K) := by
      unfold cmb
      refine Nat.le_trans (sumN_abs (B := 12 * (2 ^ K * 2 ^ ((K + 4) * n)) * 2 ^ K) fun q hq => ?_) (Nat.mul_le_mul_right _ hn)
      rw [Int.natAbs_mul]
      exact Nat.mul_le_mul (zz q) (hM q hq j hj)
    have c2 : (det n (padM M P) * M i j).natAbs ≤ 2 ^ ((K + 4) * n) * 2 ^ K := by
      rw [Int.natAbs_mul]
      exact Nat.mul_le_mul dd (hM i hi j hj)
    have e1 : 2 ^ ((K + 4) * n) * 2 ^ K ≤ 2 ^ ((K + 4) * n + 2 * K) := by
      rw [← Nat.pow_add]; exact Nat.pow_le_pow_right (by decide) (by omega)
    have e2 : 2 ^ K * 2 ^ ((K + 4) * n) * 2 ^ K = 2 ^ ((K + 4) * n + 2 * K) := by rw [← Nat.pow_add, ← Nat.pow_add]; congr 1; omega
    have e3 : 2 ^ ((K + 4) * n + 2 * K + 9) = 2 ^ ((K + 4) * n + 2 * K) * 512 := by rw [Nat.pow_add]
    have e4 : 12 * (12 * (2 ^ K * 2 ^ ((K + 4) * n)) * 2 ^ K) = 144 * 2 ^ ((K + 4) * n + 2 * K) := by
      rw [← e2]
      simp only [← Nat.mul_assoc]
    rw [e4] at c1
    rw [e3]
    have p0 : 0 < 2 ^ ((K + 4) * n + 2 * K) := Nat.two_pow_pos _
    generalize 2 ^ ((K + 4) * n + 2 * K) = Z at *
    generalize 2 ^ ((K + 4) * n) * 2 ^ K = Y at *
    omega
theorem Sch.bd {K : Nat} (hM : ∀ i, i < n → ∀ j, j < n → M i j = M j i) (h : Sch M b n P T c) (b0 : 0 < b) (hK : ∀ i, i < n → ∀ j, j < n → (M i j).natAbs ≤ 2 ^ K) (hb : b.natAbs < 2 ^ K) : Bdd ((K + 4) * n + 2 * K + 9) T.flatten c := by
  have n12 := h.tab.whi
  have n1 := h.tab.wlo
  have f := h.frc hM (by omega)
  have d0 := h.pad_det
  refine f.bd (Int.mul_ne_zero d0 (by omega)) (fun i hi j hj => (sch_lt n12 hK hi hj).1) ?_
  exact pow_up (mul_lt (sch_lt (P := P) n12 hK (show 0 < n by omega) (show 0 < n by omega)).2 hb) (by omega)
theorem stg_sch {rs : List (List Int)} {K : Nat} (hK : (K + 4) * n + 2 * K + 9 ≤ 2000) (t : IsTab rs b n) (hl : rs.length = n) (hs : ∀ i, i < n → ∀ j, j < n → matOf rs i j = matOf rs j i) (hk : Bdd K rs.flatten b) : ∀ m, m ≤ n → ∃ P, (∀ p ∈ P, p < m) ∧ Sch (matOf rs) b n P (stg rs b m).tb (stg rs b m).bt
  | 0, _ => ⟨[], fun p h => (nomatch h), sch0 t hl hs⟩
  | m + 1, hm => by
    obtain ⟨P, hP, h⟩ := stg_sch hK t hl hs hk m (by omega)
    have b0 := t.pos
    have mb : ∀ i, i < n → ∀ j, j < n → (matOf rs i j).natAbs ≤ 2 ^ K := fun i hi j hj => mat_le (fun r hr => bdd_row hk hr) i j
    have bd := h.bd hs b0 mb hk.b
    show ∃ P, (∀ p ∈ P, p < m + 1) ∧ Sch (matOf rs) b n P (stp m (stg rs b m)).tb (stp m (stg rs b m)).bt
    generalize stg rs b m = s at *
    have same : stp m s = s → ∃ P, (∀ p ∈ P, p < m + 1) ∧ Sch (matOf rs) b n P (stp m s).tb (stp m s).bt := fun e => by
      rw [e]; exact ⟨P, fun p hp => by have := hP p hp; omega, h⟩
    cases hsp : s.sp with
    | some k => exact same (by unfold stp; rw [hsp])
    | none =>
      rcases stp_cases m s hsp with ⟨_, e⟩ | ⟨hp, e⟩ | ⟨_, _, e⟩
      · rw [e]; exact ⟨P, fun p hp => by have := hP p hp; omega, h⟩
      · have n1 := h.tab.wlo
        have n12 := h.tab.whi
        have hml : m < s.tb.length := by rw [h.len]; omega
        have pe : nth (s.tb.getD m []) m = matOf s.tb m m := rfl
        rw [pe] at hp e
        obtain ⟨q1, q2, _, q4⟩ := shP_is (rs := schK m s.tb) (by rw [schK_len, h.len]; exact n1) (by rw [schK_len, h.len]; exact n12) n1 n12 (sch_wd h.tab.wd hml) (Int.mul_pos h.tab.pos hp) (sch_bd h.tab.wd hml bd)
        rw [e]
        refine ⟨m :: P, fun p hq => ?_, h.step hs (by omega) (by omega) hp q1 (by rw [q2, schK_len, h.len]) fun i hi j hj => ?_⟩
        · rcases List.mem_cons.mp hq with rfl | hq
          · exact Nat.lt_succ_self _
          · have := hP p hq; omega
        · rw [q4 i j, mat_schK h.tab.wd hml (by rw [h.len]; exact hi) j]
      · exact same e
theorem stb_of {rs : List (List Int)} {K : Nat} (hK : (K + 4) * n + 2 * K + 9 ≤ 2000) (t : IsTab rs b n) (hl : rs.length = n) (hs : ∀ i, i < n → ∀ j, j < n → matOf rs i j = matOf rs j i) (hk : Bdd K rs.flatten b) : StB rs b n := fun m hm => by
  obtain ⟨P, _, h⟩ := stg_sch hK t hl hs hk m hm
  exact (h.bd hs t.pos (fun i hi j hj => mat_le (fun r hr => bdd_row hk hr) i j) hk.b).up hK
/-! forms -/
def bil (n : Nat) (M : Mt) (x y : Nat → Int) : Int := sumN n fun j => cmb n M x j * y j
def Psd (n : Nat) (M : Mt) : Prop := ∀ x, 0 ≤ bil n M x x
theorem bil_sym (hM : ∀ i, i < n → ∀ j, j < n → M i j = M j i) (x y : Nat → Int) : bil n M x y = bil n M y x := by
  unfold bil cmb
  rw [sumN_congr (g := fun j => sumN n fun i => x i * M i j * y j) fun j _ => by rw [sumN_mul'], sumN_swap]
  exact sumN_congr fun i hi => by
    rw [← sumN_mul']
    exact sumN_congr fun j hj => by rw [hM i hi j hj]; simp only [Int.mul_assoc, Int.mul_comm, Int.mul_left_comm]
theorem bil_l (a e : Int) (x y z : Nat → Int) : bil n M (fun i => a * x i + e * y i) z = a * bil n M x z + e * bil n M y z := by
  unfold bil
  rw [← sumN_mul, ← sumN_mul, ← sumN_add]
  refine sumN_congr fun j _ => ?_
  rw [cmb_add, cmb_mul, cmb_mul, Int.add_mul, Int.mul_assoc, Int.mul_assoc]
theorem bil_r (a e : Int) (x y z : Nat → Int) : bil n M z (fun i => a * x i + e * y i) = a * bil n M z x + e * bil n M z y := by
  unfold bil
  rw [← sumN_mul, ← sumN_mul, ← sumN_add]
  refine sumN_congr fun j _ => ?_
  show cmb n M z j * (a * x j + e * y j) = _
  rw [Int.mul_add]
  simp only [Int.mul_assoc, Int.mul_comm, Int.mul_left_comm]
theorem bil_two (hM : ∀ i, i < n → ∀ j, j < n → M i j = M j i) (a e : Int) (x y : Nat → Int) : bil n M (fun i => a * x i + e * y i) (fun i => a * x i + e * y i) = a * a * bil n M x x + 2 * (a * e) * bil n M x y + e * e * bil n M y y := by
  rw [bil_l, bil_r, bil_r, bil_sym hM y x, Int.mul_add, Int.mul_add]
  have h1 : a * (e * bil n M x y) = a * e * bil n M x y := (Int.mul_assoc _ _ _).symm
  have h2 : e * (a * bil n M x y) = a * e * bil n M x y := by rw [← Int.mul_assoc, Int.mul_comm e a]
  have h3 : a * (a * bil n M x x) = a * a * bil n M x x := (Int.mul_assoc _ _ _).symm
  have h4 : e * (e * bil n M y y) = e * e * bil n M y y := (Int.mul_assoc _ _ _).symm
  have h5 : 2 * (a * e) * bil n M x y = 2 * (a * e * bil n M x y) := Int.mul_assoc _ _ _
  rw [h1, h2, h3, h4, h5]
  omega
theorem Sch.row (h : Sch M b n P T c) (b0 : b ≠ 0) {i k : Nat} (hi : i < n) (hk : k < n) (iP : i ∉ P) (kP : k ∉ P) : ∃ (s t : Int) (v u : Nat → Int), s ≠ 0 ∧ t ≠ 0 ∧ c * bil n M v u = s * t * (matOf T i k * b) ∧ c * bil n M v v = s * s * (matOf T i i * b) ∧ c * bil n M u u = t * t * (matOf T k k * b) := by
  obtain ⟨s, y, s0, yz, ey⟩ := h.own i hi iP
  obtain ⟨t, z, t0, zz, ez⟩ := h.own k hk kP
  have key : ∀ {i k : Nat} {s t : Int} {y z : Nat → Int}, i < n → k < n → k ∉ P → (∀ j, j < n → s * (matOf T i j * b) = c * (s * M i j + cmb n M y j)) → (∀ q, q ∉ P → z q = 0) → c * bil n M (fun q => s * (if q = i then 1 else 0) + 1 * y q) (fun q => t * (if q = k then 1 else 0) + 1 * z q) = s * t * (matOf T i k * b) := by
    intro i k s t y z hi hk kP ey zz
    unfold bil
    rw [← sumN_mul]
    have e1 : ∀ j, j < n → c * (cmb n M (fun q => s * (if q = i then 1 else 0) + 1 * y q) j * (t * (if j = k then 1 else 0) + 1 * z j)) = (if j = k then s * t * (matOf T i k * b) else 0) + s * (matOf T i j * b) * z j := fun j hj => by
      rw [cmb_add, cmb_mul, cmb_mul, cmb_one (c := y) hi, Int.one_mul, Int.one_mul, Int.one_mul, ← Int.mul_assoc, ← ey j hj]
      by_cases e : j = k
      · subst e
        rw [if_pos rfl, if_pos rfl, Int.mul_one, Int.mul_add]
        congr 1
        simp only [Int.mul_assoc, Int.mul_comm, Int.mul_left_comm]
      · rw [if_neg e, if_neg e, Int.mul_zero, Int.zero_add, Int.zero_add]
    rw [sumN_congr e1, sumN_add, sumN_one hk fun j _ ne => if_neg ne, if_pos rfl]
    rw [sumN_zero fun j hj => ?_, Int.add_zero]
    by_cases jP : j ∈ P
    · rw [h.sym i hi j hj, h.zero j jP i hi]; simp
    · rw [zz j jP, Int.mul_zero]
  exact ⟨s, t, fun q => s * (if q = i then 1 else 0) + 1 * y q, fun q => t * (if q = k then 1 else 0) + 1 * z q, s0, t0, key hi hk kP ey zz, key hi hi iP ey yz, key hk hk kP ez zz⟩
theorem sq_pos {x : Int} (h : x ≠ 0) : 0 < x * x := by
  rcases Int.lt_or_gt_of_ne h with h | h
  · exact Int.mul_pos_of_neg_of_neg h h
  · exact Int.mul_pos h h
theorem Sch.col (hM : ∀ i, i < n → ∀ j, j < n → M i j = M j i) (h : Sch M b n P T c) (b0 : 0 < b) (ps : Psd n M) {i : Nat} (hi : i < n) (hz : matOf T i i = 0) {k : Nat} (hk : k < n) : matOf T i k = 0 := by
  by_cases iP : i ∈ P
  · exact h.zero i iP k hk
  · by_cases kP : k ∈ P
    · rw [h.sym i hi k hk]; exact h.zero k kP i hi
    · refine Classical.byContradiction fun hne => ?_
      obtain ⟨s, t, v, u, s0, t0, e1, e2, e3⟩ := h.row (by omega) hi hk iP kP
      have c0 := h.tab.pos
      rw [hz, Int.zero_mul, Int.mul_zero] at e2
      have q1 : c * bil n M v u ≠ 0 := by rw [e1]; exact Int.mul_ne_zero (Int.mul_ne_zero s0 t0) (Int.mul_ne_zero hne (by omega))
      have v0 : bil n M v v = 0 := by
        rcases Int.mul_eq_zero.mp e2 with z | z
        · omega
        · exact z
      have g0 : bil n M v u ≠ 0 := fun z => q1 (by rw [z, Int.mul_zero])
      have u0 : 0 ≤ bil n M u u := ps u
      have := ps fun i => (-(bil n M v u * (bil n M u u + 1))) * v i + 1 * u i
      rw [bil_two hM, v0] at this
      generalize bil n M v u = g at *
      generalize bil n M u u = w at *
      have gg := sq_pos g0
      have e : 2 * (-(g * (w + 1)) * 1) * g = -(2 * (g * g * (w + 1))) := by
        rw [Int.mul_one, Int.mul_neg, Int.neg_mul]
        simp only [Int.mul_assoc, Int.mul_comm, Int.mul_left_comm]
      rw [e, Int.mul_zero] at this
      have h2 : w + 1 ≤ g * g * (w + 1) := by
        have : 1 * (w + 1) ≤ g * g * (w + 1) := Int.mul_le_mul_of_nonneg_right (by omega) (by omega)
        omega
      omega
end
end GW
set_option exponentiation.threshold 20000
/-! Core 97: the steps of any spread, summed. -/
namespace GW
open PySem
abbrev StepT := (Int × Int) × (List Int × Int)
def byS (s : StepT) : Int := s.1.2 * s.2.2 * s.2.2
def accE (st : List StepT) : Int := st.foldl (fun E s => E * byS s) 1
def accG : List StepT → Mt := fun st i j => (st.foldl (fun (p : Int × Int) s => (p.1 * byS s + s.1.1 * nth s.2.1 j * nth s.2.1 i * p.2, p.2 * byS s)) (0, 1)).1
theorem acc_E (st : List StepT) (i j : Nat) : (st.foldl (fun (p : Int × Int) s => (p.1 * byS s + s.1.1 * nth s.2.1 j * nth s.2.1 i * p.2, p.2 * byS s)) (0, 1)).2 = accE st := by
  unfold accE
  have : ∀ (st : List StepT) (g e : Int), (st.foldl (fun (p : Int × Int) s => (p.1 * byS s + s.1.1 * nth s.2.1 j * nth s.2.1 i * p.2, p.2 * byS s)) (g, e)).2 = st.foldl (fun E s => E * byS s) e := by
    intro st
    induction st with
    | nil => intro g e; rfl
    | cons s st ih => intro g e; exact ih _ _
  exact this st 0 1
theorem accE_app (st : List StepT) (s : StepT) : accE (st ++ [s]) = accE st * byS s := by simp [accE]
theorem accG_app (st : List StepT) (s : StepT) (i j : Nat) : accG (st ++ [s]) i j = accG st i j * byS s + s.1.1 * nth s.2.1 j * nth s.2.1 i * accE st := by
  rw [← acc_E st i j]
  simp [accG]
theorem accG_nil (i j : Nat) : accG [] i j = 0 := rfl
theorem accE_nil : accE [] = 1 := rfl
section
variable {b : Int} {n : Nat} {rs : List (List Int)}
structure StgA (M : Mt) (b : Int) (n m : Nat) (s : Stg) : Prop where
  pos : 0 < accE s.st
  eq : ∀ i, i < n → ∀ j, j < n → M i j * accE s.st * s.bt = b * (accG s.st i j * s.bt + matOf s.tb i j * accE s.st)
  zero : s.sp = none → ∀ i, i < m → ∀ j, j < n → matOf s.tb i j = 0
  good : ∃ qs : List Nat, qs.length = s.st.length ∧ qs.Pairwise (· < ·) ∧ (∀ q ∈ qs, q < m) ∧ ∀ (k : Nat) (p : StepT) (q : Nat), s.st[k]? = some p → qs[k]? = some q → GoodStep p n q
theorem stg_acc {K : Nat} (hK : (K + 4) * n + 2 * K + 9 ≤ 2000) (t : IsTab rs b n) (hl : rs.length = n) (hs : ∀ i, i < n → ∀ j, j < n → matOf rs i j = matOf rs j i) (hk : Bdd K rs.flatten b) : ∀ m, m ≤ n → StgA (matOf rs) b n m (stg rs b m)
  | 0, _ => ⟨by show (0 : Int) < accE []; rw [accE_nil]; decide, fun i hi j hj => by
      show matOf rs i j * accE [] * b = b * (accG [] i j * b + matOf rs i j * accE [])
      rw [accE_nil, accG_nil]; simp [Int.mul_comm], fun _ i hi => by omega, [], rfl, .nil, fun q h => (nomatch h), fun k p q h => by
      have : ([] : List StepT)[k]? = some p := h
      simp at this⟩
  | m + 1, hm => by
    have A := stg_acc hK t hl hs hk m (by omega)
    obtain ⟨P, hP, h⟩ := stg_sch hK t hl hs hk m (by omega)
    obtain ⟨P', hP', h'⟩ := stg_sch hK t hl hs hk (m + 1) hm
    have sb := stb_of hK t hl hs hk m (by omega)
    have b0 := t.pos
    have hn1 : stg rs b (m + 1) = stp m (stg rs b m) := rfl
    rw [hn1] at h' ⊢
    generalize stg rs b m = s at *
    obtain ⟨qs, ql, qi, qm, qg⟩ := A.good
    have up : ∀ q ∈ qs, q < m + 1 := fun q hq => by have := qm q hq; omega
    have hml : m < s.tb.length := by rw [h.len]; omega
    have wl := h.tab.wd _ (getD_mem hml)
    have pe : nth (s.tb.getD m []) m = matOf s.tb m m := rfl
    have c0 := h.tab.pos
    cases hsp : s.sp with
    | some k =>
      have e : stp m s = s := by unfold stp; rw [hsp]
      rw [e]
      exact ⟨A.pos, A.eq, fun z => (by rw [hsp] at z; cases z), qs, ql, qi, up, qg⟩
    | none =>
      rcases stp_cases m s hsp with ⟨_, e⟩ | ⟨hp, e⟩ | ⟨z1, z2, e⟩
      · rw [e]
        exact ⟨A.pos, A.eq, fun z => (by cases z), qs, ql, qi, up, qg⟩
      · have lp := lowP_is (nth (s.tb.getD m []) m) (b := s.bt) (by omega)
        have n12 := h.tab.whi
        have n1 := h.tab.wlo
        have ro := rowOf_is (y := s.tb.getD m []) (D := nth (s.tb.getD m []) m) (by omega) (by omega) (by omega)
        obtain ⟨lr, le⟩ := lp
        have cb := bdd_row sb (getD_mem hml)
        have g : GoodStep (lowP (nth (s.tb.getD m []) m) s.bt, rowOf (s.tb.getD m []) (nth (s.tb.getD m []) m)) n m := by
          have p0 : 0 < (lowP (nth (s.tb.getD m []) m) s.bt).1 := by
            have h1 : 0 < nth (s.tb.getD m []) m * (lowP (nth (s.tb.getD m []) m) s.bt).2 := Int.mul_pos hp lr.pos
            rw [← le] at h1
            exact Int.pos_of_mul_pos_left h1 c0
          obtain ⟨x, y, ev, _, _, _, xle, yle⟩ := low_parts (nth (s.tb.getD m []) m) (b := s.bt) (by omega)
          rw [lowP_v] at ev
          unfold ratV at ev
          injection ev with ev
          injection ev with e1 ev
          injection ev with e2 _
          injection e1 with e1
          injection e2 with e2
          rw [← e1] at xle
          rw [← e2] at yle
          have pb : (nth (s.tb.getD m []) m).natAbs < 2 ^ 2000 := cb _ (nth_mem (by omega))
          refine ⟨lr, by show 1 ≤ (lowP _ _).1; omega, ro.row, by show (rowOf _ _).1.length = n; rw [ro.len, wl], by omega, fun i hi => ?_, ?_, ⟨fun x hx => ?_, Nat.lt_of_le_of_lt ro.ble pb⟩, Nat.lt_of_le_of_lt xle pb, Nat.lt_of_le_of_lt yle sb.b⟩
          · have h1 := ro.eq i
            have h0 : nth (s.tb.getD m []) i = 0 := by
              have : nth (s.tb.getD m []) i = matOf s.tb m i := rfl
              rw [this, h.sym m (by omega) i (by omega)]
              exact A.zero hsp i hi m (by omega)
            rw [h0, Int.zero_mul] at h1
            rcases Int.mul_eq_zero.mp h1 with h1 | h1
            · exact h1
            · omega
          · have h1 := ro.eq m
            rw [Int.mul_comm (nth (s.tb.getD m []) m)] at h1
            exact Int.eq_of_mul_eq_mul_right (show nth (s.tb.getD m []) m ≠ 0 by omega) h1
          · obtain ⟨j, hj, rfl⟩ := mem_nth hx
            exact Nat.lt_of_le_of_lt (ro.xle j) (cb _ (nth_mem (by rw [← ro.len]; exact hj)))
        have re := ro.eq
        rw [pe] at hp
        have b0' := h'.tab.pos
        obtain ⟨_, _, _, q4⟩ := shP_is (rs := schK m s.tb) (by rw [schK_len]; omega) (by rw [schK_len, h.len]; omega) n1 n12 (sch_wd h.tab.wd hml) (Int.mul_pos c0 hp) (sch_bd h.tab.wd hml sb)
        rw [e] at b0' ⊢
        rw [pe] at le re g b0' ⊢
        have rp := g.row.pos
        have lp2 := lr.pos
        rw [pe] at lp2
        have m4 : ∀ i, i < n → ∀ j, matOf (shP (schK m s.tb) (s.bt * matOf s.tb m m)).1 i j * (s.bt * matOf s.tb m m) = (matOf s.tb i j * matOf s.tb m m - matOf s.tb m i * matOf s.tb m j) * (shP (schK m s.tb) (s.bt * matOf s.tb m m)).2 := fun i hi j => by
          rw [q4 i j, mat_schK h.tab.wd hml (by rw [h.len]; exact hi) j]
        refine ⟨?_, fun i hi j hj => ?_, fun _ i hi j hj => ?_, qs ++ [m], by simp [ql], ?_, fun q hq => ?_, fun k p q hk hq => ?_⟩
        · show 0 < accE (s.st ++ [_])
          rw [accE_app]
          exact Int.mul_pos A.pos (Int.mul_pos (Int.mul_pos lp2 rp) rp)
        · show matOf rs i j * accE (s.st ++ [_]) * _ = b * (accG (s.st ++ [_]) i j * _ + _ * accE (s.st ++ [_]))
          rw [accE_app, accG_app]
          have e1 := A.eq i hi j hj
          have e2 := m4 i hi j
          have e3 := re i
          have e4 := re j
          have u1 : nth (s.tb.getD m []) i = matOf s.tb m i := rfl
          have u2 : nth (s.tb.getD m []) j = matOf s.tb m j := rfl
          rw [u1] at e3
          rw [u2] at e4
          have E0 := A.pos
          unfold byS
          dsimp only at rp ⊢
          generalize rowOf (s.tb.getD m []) (matOf s.tb m m) = R at *
          generalize lowP (matOf s.tb m m) s.bt = L at *
          generalize shP (schK m s.tb) (s.bt * matOf s.tb m m) = Tn at *
          generalize matOf Tn.1 i j = tn at *
          generalize matOf s.tb i j = tij at *
          generalize matOf s.tb m i = ti at *
          generalize matOf s.tb m j = tj at *
          generalize matOf s.tb m m = pv at *
          generalize accE s.st = E at *
          generalize accG s.st i j = G at *
          generalize matOf rs i j = M at *
          generalize s.bt = c at *
          generalize nth R.1 i = xi at *
          generalize nth R.1 j = xj at *
          generalize Tn.2 = c' at *
          generalize R.2 = r at *
          generalize L.1 = p at *
          generalize L.2 = q at *
          -- le : p * c = pv * q ; e3 : xi * pv = ti * r ; e4 : xj * pv = tj * r ; e2 : tn * (c * pv) = (tij * pv - ti * tj) * c'
          refine Int.eq_of_mul_eq_mul_right (show c * pv ≠ 0 from Int.mul_ne_zero (by omega) (by omega)) ?_
          have a1 : p * xj * xi * E * c' * (c * pv) * pv = q * r * r * ti * tj * E * c' * pv := by
            rw [show p * xj * xi * E * c' * (c * pv) * pv = (p * c) * (xj * pv) * (xi * pv) * (E * c') by simp only [Int.mul_assoc, Int.mul_comm, Int.mul_left_comm], le, e3, e4]
            simp only [Int.mul_assoc, Int.mul_comm, Int.mul_left_comm]
          have a2 : p * xj * xi * E * c' * (c * pv) = q * r * r * ti * tj * E * c' := Int.eq_of_mul_eq_mul_right (show pv ≠ 0 by omega) a1
          have l1 : M * (E * (q * r * r)) * c' * (c * pv) = (M * E * c) * (q * r * r * c' * pv) := by simp only [Int.mul_assoc, Int.mul_comm, Int.mul_left_comm]
          have l2 : b * ((G * (q * r * r) + p * xj * xi * E) * c' + tn * (E * (q * r * r))) * (c * pv) = b * (G * (q * r * r) * c' * (c * pv) + p * xj * xi * E * c' * (c * pv) + tn * (c * pv) * (E * (q * r * r))) := by
            generalize q * r * r = Y
            generalize p * xj * xi * E = Z0
            generalize c * pv = W0
            rw [Int.mul_assoc b, Int.add_mul, Int.add_mul, Int.add_mul, Int.mul_right_comm tn (E * Y) W0]
          rw [l1, e1, l2, a2, e2]
          simp only [Int.mul_add, Int.add_mul, Int.mul_sub, Int.sub_mul, Int.mul_assoc, Int.mul_comm, Int.mul_left_comm]
          omega
        · have z : matOf (shP (schK m s.tb) (s.bt * matOf s.tb m m)).1 i j * (s.bt * matOf s.tb m m) = 0 := by
            rw [m4 i (by omega) j]
            by_cases im : i = m
            · subst im
              rw [Int.mul_comm (matOf s.tb i j), Int.sub_self, Int.zero_mul]
            · have i0 := A.zero hsp i (by omega)
              rw [i0 j hj, h.sym m (by omega) i (by omega), i0 m (by omega)]
              simp
          rcases Int.mul_eq_zero.mp z with z | z
          · exact z
          · exact absurd z (Int.mul_ne_zero (by omega) (by omega))
        · exact List.pairwise_append.mpr ⟨qi, List.pairwise_singleton _ _, fun a ha b hb => by rw [List.mem_singleton.mp hb]; exact qm a ha⟩
        · rcases List.mem_append.mp hq with hq | hq
          · exact up q hq
          · rw [List.mem_singleton.mp hq]; exact Nat.lt_succ_self m
        · change (s.st ++ [_])[k]? = some p at hk
          by_cases hkl : k < s.st.length
          · rw [List.getElem?_append_left hkl] at hk
            rw [List.getElem?_append_left (by omega)] at hq
            exact qg k p q hk hq
          · have hk2 := (List.getElem?_eq_some_iff.mp hk).1
            simp only [List.length_append, List.length_cons, List.length_nil] at hk2
            have e0 : k - s.st.length = 0 := by omega
            have e1 : k - qs.length = 0 := by omega
            rw [List.getElem?_append_right (by omega), e0] at hk
            rw [List.getElem?_append_right (by omega), e1] at hq
            simp at hk hq
            rw [← hk, ← hq]
            exact g
      · rw [e]
        refine ⟨A.pos, A.eq, fun _ i hi j hj => ?_, qs, ql, qi, up, qg⟩
        by_cases im : i = m
        · subst im
          exact z2 _ (nth_mem (by omega))
        · exact A.zero hsp i (by omega) j hj
end
end GW
set_option exponentiation.threshold 20000
/-! Core 98: a spread is the sum of its steps; steps summed, whatever they are. -/
namespace GW
open PySem
section
variable {b : Int} {n : Nat} {rs : List (List Int)}
theorem accE_pos {st : List StepT} (h : ∀ p ∈ st, ∃ q, GoodStep p n q) : 0 < accE st := by
  have : ∀ (st : List StepT) (e : Int), 0 < e → (∀ p ∈ st, ∃ q, GoodStep p n q) → 0 < st.foldl (fun E s => E * byS s) e := by
    intro st
    induction st with
    | nil => intro e h _; exact h
    | cons s st ih =>
      intro e h hs
      obtain ⟨q, g⟩ := hs s (List.mem_cons_self ..)
      exact ih _ (Int.mul_pos h (Int.mul_pos (Int.mul_pos g.rat.pos g.row.pos) g.row.pos)) fun p hp => hs p (List.mem_cons_of_mem _ hp)
  exact this st 1 (by decide) h
theorem rev_ind {α : Type} {C : List α → Prop} (h0 : C []) (hs : ∀ xs x, C xs → C (xs ++ [x])) : ∀ xs, C xs := fun xs => by
  have : ∀ ys : List α, C ys.reverse := by
    intro ys
    induction ys with
    | nil => exact h0
    | cons y ys ih => rw [List.reverse_cons]; exact hs _ _ ih
  have := this xs.reverse
  rwa [List.reverse_reverse] at this
theorem bil_congr {A B : Mt} (h : ∀ i, i < n → ∀ j, j < n → A i j = B i j) (x y : Nat → Int) : bil n A x y = bil n B x y := sumN_congr fun j hj => by
  congr 1
  exact sumN_congr fun i hi => by rw [h i hi j hj]
theorem bil_scale (A : Mt) (k : Int) (x y : Nat → Int) : bil n (fun i j => A i j * k) x y = bil n A x y * k := by
  unfold bil
  rw [← sumN_mul']
  refine sumN_congr fun j _ => ?_
  have : cmb n (fun i j => A i j * k) x j = cmb n A x j * k := by
    unfold cmb
    rw [← sumN_mul']
    exact sumN_congr fun i _ => by rw [Int.mul_assoc]
  rw [this, Int.mul_right_comm]
theorem bil_plus (A B : Mt) (x y : Nat → Int) : bil n (fun i j => A i j + B i j) x y = bil n A x y + bil n B x y := by
  unfold bil
  rw [← sumN_add]
  refine sumN_congr fun j _ => ?_
  have : cmb n (fun i j => A i j + B i j) x j = cmb n A x j + cmb n B x j := by
    unfold cmb
    rw [← sumN_add]
    exact sumN_congr fun i _ => by rw [Int.mul_add]
  rw [this, Int.add_mul]
theorem bil_outer (w : Nat → Int) (k : Int) (x : Nat → Int) : bil n (fun i j => k * (w i * w j)) x x = k * (sumN n (fun i => x i * w i) * sumN n fun i => x i * w i) := by
  unfold bil
  have : ∀ j, cmb n (fun i j => k * (w i * w j)) x j = k * sumN n (fun i => x i * w i) * w j := fun j => by
    unfold cmb
    rw [← sumN_mul, ← sumN_mul']
    exact sumN_congr fun i _ => by simp only [Int.mul_assoc, Int.mul_comm, Int.mul_left_comm]
  rw [sumN_congr (g := fun j => k * sumN n (fun i => x i * w i) * (x j * w j)) fun j _ => by rw [this j]; simp only [Int.mul_assoc, Int.mul_comm, Int.mul_left_comm], sumN_mul, Int.mul_assoc]
theorem sq_nn (x : Int) : 0 ≤ x * x := by
  by_cases h : x = 0
  · rw [h]; decide
  · exact Int.le_of_lt (sq_pos h)
theorem acc_psd : ∀ st : List StepT, (∀ p ∈ st, ∃ q, GoodStep p n q) → Psd n (accG st) := rev_ind (fun _ x => by
    have : bil n (accG []) x x = 0 := sumN_zero fun j _ => by
      have : cmb n (accG []) x j = 0 := sumN_zero fun i _ => by rw [accG_nil, Int.mul_zero]
      rw [this, Int.zero_mul]
    rw [this]
    exact Int.le_refl _) fun st s ih h x => by
  have h' : ∀ p ∈ st, ∃ q, GoodStep p n q := fun p hp => h p (List.mem_append_left _ hp)
  obtain ⟨q, g⟩ := h s (List.mem_append_right _ (List.mem_singleton.mpr rfl))
  have e : bil n (accG (st ++ [s])) x x = bil n (accG st) x x * byS s + s.1.1 * accE st * (sumN n (fun i => x i * nth s.2.1 i) * sumN n fun i => x i * nth s.2.1 i) := by
    rw [← bil_outer (fun i => nth s.2.1 i) (s.1.1 * accE st) x, ← bil_scale, ← bil_plus]
    exact bil_congr (fun i _ j _ => by rw [accG_app]; congr 1; simp only [Int.mul_assoc, Int.mul_comm, Int.mul_left_comm]) x x
  rw [e]
  have b0 : 0 < byS s := Int.mul_pos (Int.mul_pos g.rat.pos g.row.pos) g.row.pos
  have t1 := g.top
  have a1 := Int.mul_nonneg (ih h' x) (Int.le_of_lt b0)
  have a2 := Int.mul_nonneg (Int.mul_nonneg (show 0 ≤ s.1.1 by omega) (Int.le_of_lt (accE_pos h'))) (sq_nn (sumN n fun i => x i * nth s.2.1 i))
  omega
structure StepsOf (M : Mt) (b : Int) (n : Nat) (st : List StepT) : Prop where
  pos : 0 < accE st
  eq : ∀ i, i < n → ∀ j, j < n → M i j * accE st = b * accG st i j
  good : ∃ qs : List Nat, qs.length = st.length ∧ qs.Pairwise (· < ·) ∧ (∀ q ∈ qs, q < n) ∧ ∀ (k : Nat) (p : StepT) (q : Nat), st[k]? = some p → qs[k]? = some q → GoodStep p n q
theorem StepsOf.all {M : Mt} {st : List StepT} (h : StepsOf M b n st) : ∀ p ∈ st, ∃ q, GoodStep p n q := fun p hp => by
  obtain ⟨qs, ql, _, _, g⟩ := h.good
  obtain ⟨k, hk⟩ := List.mem_iff_getElem?.mp hp
  have hl := (List.getElem?_eq_some_iff.mp hk).1
  exact ⟨_, g k p _ hk (List.getElem?_eq_getElem (show k < qs.length by omega))⟩
theorem StepsOf.len {M : Mt} {st : List StepT} (h : StepsOf M b n st) : st.length ≤ n := by
  obtain ⟨qs, ql, qi, qn, _⟩ := h.good
  have := nd_len (ps_nodup qi) (V := List.range n) fun i hi => List.mem_range.mpr (qn i hi)
  rw [List.length_range] at this
  omega
theorem StepsOf.psd {M : Mt} {st : List StepT} (b0 : 0 < b) (h : StepsOf M b n st) : Psd n M := fun x => by
  have e : bil n M x x * accE st = bil n (accG st) x x * b := by
    rw [← bil_scale, ← bil_scale]
    exact bil_congr (fun i hi j hj => by rw [h.eq i hi j hj, Int.mul_comm]) x x
  have := Int.mul_nonneg (acc_psd st h.all x) (Int.le_of_lt b0)
  rw [← e] at this
  have E0 := h.pos
  refine Classical.byContradiction fun hn => ?_
  have := Int.mul_neg_of_neg_of_pos (show bil n M x x < 0 by omega) E0
  omega
end
end GW
set_option exponentiation.threshold 20000
/-! Core 99: any steps summed by a law. -/
namespace GW
open PySem
structure OkStep (p : StepT) (n : Nat) : Prop where
  q0 : 0 < p.1.2
  c0 : 0 < p.2.2
  len : p.2.1.length = n
  bd : Bdd 2000 p.2.1 p.2.2
  rb : p.1.1.natAbs < 2 ^ 2000 ∧ p.1.2.natAbs < 2 ^ 2000
theorem GoodStep.ok {p : StepT} {n q : Nat} (g : GoodStep p n q) : OkStep p n := ⟨g.rat.pos, g.row.pos, g.len, g.bd, g.rb⟩
section
variable {P : Pg} {fu d : Nat}
end
end GW
set_option exponentiation.threshold 20000
/-! Core 100: shares; one spread wider by another. -/
namespace GW
open PySem
section
variable {b : Int} {n : Nat} {M : Mt}
def unitF (j : Nat) : Nat → Int := fun i => if i = j then 1 else 0
theorem bil_unit {j : Nat} (hj : j < n) (x : Nat → Int) : bil n M x (unitF j) = cmb n M x j := by
  unfold bil unitF
  rw [sumN_one hj fun i _ ne => by show _ * (if i = j then (1 : Int) else 0) = 0; rw [if_neg ne, Int.mul_zero]]
  show _ * (if j = j then (1 : Int) else 0) = _
  rw [if_pos rfl, Int.mul_one]
theorem psd_ker (hM : ∀ i, i < n → ∀ j, j < n → M i j = M j i) (ps : Psd n M) {x : Nat → Int} (hx : bil n M x x = 0) {j : Nat} (hj : j < n) : cmb n M x j = 0 := by
  refine Classical.byContradiction fun hne => ?_
  rw [← bil_unit hj] at hne
  have w0 := ps (unitF j)
  have := ps fun i => (-(bil n M x (unitF j) * (bil n M (unitF j) (unitF j) + 1))) * x i + 1 * unitF j i
  rw [bil_two hM, hx] at this
  generalize bil n M x (unitF j) = g at *
  generalize bil n M (unitF j) (unitF j) = w at *
  have gg := sq_pos hne
  have e : 2 * (-(g * (w + 1)) * 1) * g = -(2 * (g * g * (w + 1))) := by
    rw [Int.mul_one, Int.mul_neg, Int.neg_mul]
    simp only [Int.mul_assoc, Int.mul_comm, Int.mul_left_comm]
  rw [e, Int.mul_zero] at this
  have h2 : w + 1 ≤ g * g * (w + 1) := by
    have : 1 * (w + 1) ≤ g * g * (w + 1) := Int.mul_le_mul_of_nonneg_right (by omega) (by omega)
    omega
  omega
theorem dotI_sum {x y : List Int} (h : x.length = y.length) : dotI x y = sumN x.length fun i => nth x i * nth y i := dotI_dot h
theorem sol_dot {rs : List (List Int)} {ns x : List Int} {c z : Int} (hl : rs.length = n) (hn : ns.length = n) (s : Sol rs b ns c n x z) (y : Nat → Int) (hs : ∀ i, i < n → ∀ j, j < n → matOf rs i j = matOf rs j i) : bil n (matOf rs) (nth x) y * c = b * z * sumN n fun k => nth ns k * y k := by
  unfold bil
  rw [← sumN_mul', ← sumN_mul]
  refine sumN_congr fun k hk => ?_
  have e := s.eq k (by omega)
  have e2 : cmb n (matOf rs) (nth x) k = sumN n fun i => matOf rs k i * nth x i := sumN_congr fun i hi => by rw [hs i hi k hk, Int.mul_comm]
  rw [e2, Int.mul_right_comm, e]
  simp only [Int.mul_assoc, Int.mul_comm, Int.mul_left_comm]
theorem sol_pos {rs : List (List Int)} {ns x : List Int} {c z : Int} (hl : rs.length = n) (hn : ns.length = n) (b0 : 0 < b) (c0 : 0 < c) (s : Sol rs b ns c n x z) (hs : ∀ i, i < n → ∀ j, j < n → matOf rs i j = matOf rs j i) (ps : Psd n (matOf rs)) (h0 : ¬ ∀ k ∈ ns, k = 0) : 0 < dotI x ns := by
  have z0 := s.row.pos
  have e := sol_dot hl hn s (nth x) hs
  have ed : dotI x ns = sumN n fun k => nth ns k * nth x k := by
    rw [dotI_sum (by rw [s.len, hn]), s.len]
    exact sumN_congr fun i _ => Int.mul_comm _ _
  rw [← ed] at e
  have p := Int.mul_nonneg (ps (nth x)) (Int.le_of_lt c0)
  rw [e] at p
  have bz : 0 < b * z := Int.mul_pos b0 z0
  refine Classical.byContradiction fun hn0 => h0 ?_
  have d0 : dotI x ns = 0 := by
    refine Classical.byContradiction fun hne => ?_
    have := Int.mul_neg_of_pos_of_neg bz (show dotI x ns < 0 by omega)
    omega
  rw [d0, Int.mul_zero] at e
  have bx : bil n (matOf rs) (nth x) (nth x) = 0 := by
    rcases Int.mul_eq_zero.mp e with h | h
    · exact h
    · omega
  intro k hk
  obtain ⟨j, hj, rfl⟩ := mem_nth hk
  have hjn : j < n := by omega
  have ck := psd_ker hs ps bx hjn
  have e2 : cmb n (matOf rs) (nth x) j = sumN n fun i => matOf rs j i * nth x i := sumN_congr fun i hi => by rw [hs i hi j hjn, Int.mul_comm]
  have e3 := s.eq j (by omega)
  rw [← e2, ck, Int.zero_mul, Int.mul_assoc] at e3
  rcases Int.mul_eq_zero.mp e3.symm with h | h
  · exact h
  · omega
end
noncomputable def shareP (rs : List (List Int)) (b : Int) (ns : List Int) (c : Int) (w : Nat) : Int × Int := match (sweep (aug rs b ns c) w).2.2.find? (fun r => decide (nth r w ≠ 0)) with
  | some _ => (0, 1)
  | none => lowP (lowP (dotI (rowOf (solY rs b ns c w).1 (solY rs b ns c w).2).1 ns) ((rowOf (solY rs b ns c w).1 (solY rs b ns c w).2).2 * c)).2 (lowP (dotI (rowOf (solY rs b ns c w).1 (solY rs b ns c w).2).1 ns) ((rowOf (solY rs b ns c w).1 (solY rs b ns c w).2).2 * c)).1
theorem shareP_is {rs : List (List Int)} {b : Int} {ns : List Int} {c : Int} {w : Nat} (h : SolvS rs b ns c w) (hw : ∀ r ∈ rs, r.length = w) (hl : ns.length = rs.length) (w1 : 1 ≤ w) (w12 : w ≤ 12) (n1 : 1 ≤ rs.length) (n12 : rs.length ≤ 12) (hc : c ≠ 0) : (∃ l, solvV rs b ns c w = .tup [.str "none", rowV l 1] ∧ NoSol rs w ns l ∧ shareP rs b ns c w = (0, 1)) ∨ ∃ x z, solvV rs b ns c w = .tup [.str "row", rowV x z] ∧ Sol rs b ns c w x z ∧ shareP rs b ns c w = lowP (lowP (dotI x ns) (z * c)).2 (lowP (dotI x ns) (z * c)).1 := by
  have k := solvV_is h hw hl w1 w12 n1 n12 hc
  cases hf : (sweep (aug rs b ns c) w).2.2.find? (fun r => decide (nth r w ≠ 0)) with
  | some r =>
    refine .inl ?_
    rcases k with ⟨l, e, _, q, _⟩ | ⟨x, z, e, _⟩
    · exact ⟨l, e, q, by unfold shareP; rw [hf]⟩
    · unfold solvV at e
      rw [hf] at e
      injection e with e
      injection e with e _
      injection e with e
      exact absurd e (by decide)
  | none =>
    refine .inr ?_
    rcases k with ⟨l, e, _, q, _⟩ | ⟨x, z, e, s⟩
    · unfold solvV at e
      rw [hf] at e
      injection e with e
      injection e with e _
      injection e with e
      exact absurd e (by decide)
    · refine ⟨x, z, e, s, ?_⟩
      unfold solvV at e
      rw [hf] at e
      injection e with e
      injection e with _ e
      injection e with e _
      unfold rowP rowV at e
      injection e with e
      injection e with e1 e
      injection e with e2 _
      injection e1 with e1
      injection e2 with e2
      have e1 := map_inj (fun a b h => by injection h) e1
      unfold shareP
      rw [hf]
      dsimp only
      rw [e1, e2]
theorem share_low {dt zc : Int} (h : 0 < dt) (hz : 0 < zc) : lowP (lowP dt zc).2 (lowP dt zc).1 = lowP zc dt := by
  obtain ⟨r1, e1⟩ := lowP_is dt (b := zc) (by omega)
  have p0 : 0 < (lowP dt zc).1 := by
    have h1 : 0 < dt * (lowP dt zc).2 := Int.mul_pos h r1.pos
    rw [← e1] at h1
    exact Int.pos_of_mul_pos_left h1 hz
  obtain ⟨r2, e2⟩ := lowP_is (lowP dt zc).2 (b := (lowP dt zc).1) (by omega)
  obtain ⟨r3, e3⟩ := lowP_is zc (b := dt) (by omega)
  obtain ⟨z1, z2⟩ := r2.uniq r3 (by
    refine Int.eq_of_mul_eq_mul_right (show (lowP dt zc).1 * dt ≠ 0 from Int.mul_ne_zero (by omega) (by omega)) ?_
    generalize lowP (lowP dt zc).2 (lowP dt zc).1 = A at *
    generalize lowP zc dt = B at *
    generalize lowP dt zc = L at *
    rw [show A.1 * B.2 * (L.1 * dt) = (A.1 * L.1) * (B.2 * dt) by simp only [Int.mul_assoc, Int.mul_comm, Int.mul_left_comm], e2]
    rw [show B.1 * A.2 * (L.1 * dt) = (B.1 * dt) * (A.2 * L.1) by simp only [Int.mul_assoc, Int.mul_comm, Int.mul_left_comm], e3]
    rw [show L.2 * A.2 * (B.2 * dt) = (dt * L.2) * (A.2 * B.2) by simp only [Int.mul_assoc, Int.mul_comm, Int.mul_left_comm], ← e1]
    simp only [Int.mul_assoc, Int.mul_comm, Int.mul_left_comm])
  exact Prod.ext z1 z2
section
variable {P : Pg} {fu d : Nat}
end
end GW
set_option exponentiation.threshold 20000
/-! Core 101: solutions stay small with the numbers; a law's difference of tables, sizes, steps of another kind. -/
namespace GW
open PySem
section
variable {rs : List (List Int)} {b : Int} {ns : List Int} {c : Int} {w : Nat}
end
section
variable {P : Pg} {fu d : Nat}
end
end GW
set_option exponentiation.threshold 20000
/-! Core 102: steps drawn with smaller numbers; sizes drawn. -/
namespace GW
open PySem
section
variable {P : Pg} {fu d : Nat}
end
end GW
set_option exponentiation.threshold 20000
/-! Core 103: what free rows span; what is taken off a spread. -/
namespace GW
open PySem
section
variable {n : Nat}
/-! what free rows span -/
/-! what is taken off -/
theorem cauchy {M : Mt} (hM : ∀ i, i < n → ∀ j, j < n → M i j = M j i) (ps : Psd n M) (x y : Nat → Int) : bil n M x y * bil n M x y ≤ bil n M x x * bil n M y y := by
  have h := ps fun i => (-(bil n M x y)) * x i + bil n M x x * y i
  rw [bil_two hM] at h
  have A0 := ps x
  have kz : bil n M x x = 0 → bil n M x y = 0 := fun z => sumN_zero fun j hj => by rw [psd_ker hM ps z hj, Int.zero_mul]
  generalize bil n M x y = g at *
  generalize bil n M x x = A at *
  generalize bil n M y y = B at *
  by_cases hA : A = 0
  · rw [kz hA, hA]; simp
  · have e : -g * -g * A + 2 * (-g * A) * g + A * A * B = A * (A * B - g * g) := by
      have e1 : -g * -g * A = g * g * A := by rw [Int.neg_mul_neg]
      have e2 : 2 * (-g * A) * g = -(2 * (g * g * A)) := by
        rw [Int.neg_mul, Int.mul_neg, Int.neg_mul]
        congr 1
        simp only [Int.mul_assoc, Int.mul_comm, Int.mul_left_comm]
      have e3 : A * (A * B - g * g) = A * A * B - g * g * A := by rw [Int.mul_sub, Int.mul_assoc, Int.mul_comm A (g * g)]
      rw [e1, e2, e3]
      omega
    rw [e] at h
    refine Classical.byContradiction fun hn => ?_
    have := Int.mul_neg_of_pos_of_neg (show 0 < A by omega) (show A * B - g * g < 0 by omega)
    omega
end
end GW
set_option exponentiation.threshold 20000
/-! Core 104: shares, in plain numbers. -/
namespace GW
open PySem
section
variable {n : Nat} {F : List (List Int)} {c : Int} {ns : List Int} {m : Int}
theorem share_is (t : IsTab F c n) (hl : F.length = n) (hs : ∀ i, i < n → ∀ j, j < n → matOf F i j = matOf F j i) (ps : Psd n (matOf F)) (r : IsRow ns m) (ln : ns.length = n) (nz : ¬ ∀ k ∈ ns, k = 0) (sv : SolvS F c ns m n) : (∃ l, NoSol F n ns l ∧ shareP F c ns m n = (0, 1)) ∨ ∃ x z, solvV F c ns m n = .tup [.str "row", rowV x z] ∧ Sol F c ns m n x z ∧ 0 < dotI x ns ∧ shareP F c ns m n = lowP (z * m) (dotI x ns) := by
  have n1 := t.wlo
  have n12 := t.whi
  have m0 := r.pos
  rcases shareP_is sv t.wd (by omega) n1 n12 (by omega) (by omega) (by omega) with ⟨l, _, q, e⟩ | ⟨x, z, es, s, e⟩
  · exact .inl ⟨l, q, e⟩
  · have dp := sol_pos hl ln t.pos m0 s hs ps nz
    exact .inr ⟨x, z, es, s, dp, by rw [e, share_low dp (Int.mul_pos s.row.pos m0)]⟩
structure Rest (F : List (List Int)) (c : Int) (n : Nat) (ns : List Int) (m : Int) (p : Int × Int) (O : List (List Int)) (o : Int) (R : List (List Int)) (d : Int) : Prop where
  fo : Frc O o n (fun i j => p.1 * (nth ns i * nth ns j)) (p.2 * m * m)
  fr : Frc R d n (fun i j => matOf F i j * o - matOf O i j * c) (c * o)
variable {p : Int × Int} {O : List (List Int)} {o : Int} {R : List (List Int)} {d : Int}
theorem Rest.sym (h : Rest F c n ns m p O o R d) (c0 : 0 < c) (p0 : 0 < p.2) (m0 : 0 < m) (hs : ∀ i, i < n → ∀ j, j < n → matOf F i j = matOf F j i) : ∀ i, i < n → ∀ j, j < n → matOf R i j = matOf R j i := fun i hi j hj => by
  have o0 := h.fo.tab.pos
  have so : matOf O i j = matOf O j i := by
    refine Int.eq_of_mul_eq_mul_right (show p.2 * m * m ≠ 0 from Int.mul_ne_zero (Int.mul_ne_zero (by omega) (by omega)) (by omega)) ?_
    rw [h.fo.eq i hi j hj, h.fo.eq j hj i hi, Int.mul_comm (nth ns i)]
  refine Int.eq_of_mul_eq_mul_right (show c * o ≠ 0 from Int.mul_ne_zero (by omega) (by omega)) ?_
  rw [h.fr.eq i hi j hj, h.fr.eq j hj i hi, hs i hi j hj, so]
theorem Rest.psd (h : Rest F c n ns m p O o R d) (c0 : 0 < c) (m0 : 0 < m) (p1 : 0 < p.1) (p0 : 0 < p.2) (hl : F.length = n) (ln : ns.length = n) (hs : ∀ i, i < n → ∀ j, j < n → matOf F i j = matOf F j i) (ps : Psd n (matOf F)) {x : List Int} {z : Int} (s : Sol F c ns m n x z) (dp : 0 < dotI x ns) (e : p.1 * dotI x ns = p.2 * (z * m)) : Psd n (matOf R) := fun y => by
  have o0 := h.fo.tab.pos
  have d0 := h.fr.tab.pos
  have z0 := s.row.pos
  have dx : dotI x ns = sumN n fun k => nth ns k * nth x k := by
    rw [dotI_sum (by rw [s.len, ln]), s.len]
    exact sumN_congr fun i _ => Int.mul_comm _ _
  have exy := sol_dot hl ln s y hs
  have exx := sol_dot hl ln s (nth x) hs
  rw [← dx] at exx
  have cs := cauchy hs ps (nth x) y
  have b1 : bil n (matOf R) y y * (c * o) = (bil n (matOf F) y y * o + bil n (matOf O) y y * (-c)) * d := by
    rw [← bil_scale, ← bil_scale, ← bil_scale, ← bil_plus, ← bil_scale]
    exact bil_congr (fun i hi j hj => by
      show matOf R i j * (c * o) = (matOf F i j * o + matOf O i j * (-c)) * d
      rw [h.fr.eq i hi j hj, Int.mul_neg, Int.sub_eq_add_neg]) y y
  have b2 : bil n (matOf O) y y * (p.2 * m * m) = p.1 * ((sumN n fun k => nth ns k * y k) * sumN n fun k => nth ns k * y k) * o := by
    have e1 : bil n (fun i j => p.1 * (nth ns i * nth ns j)) y y = p.1 * ((sumN n fun k => nth ns k * y k) * sumN n fun k => nth ns k * y k) := by
      rw [bil_outer]
      have : sumN n (fun i => y i * nth ns i) = sumN n fun k => nth ns k * y k := sumN_congr fun i _ => Int.mul_comm _ _
      rw [this]
    rw [← e1, ← bil_scale, ← bil_scale]
    exact bil_congr (fun i hi j hj => by
      show matOf O i j * (p.2 * m * m) = p.1 * (nth ns i * nth ns j) * o
      rw [h.fo.eq i hi j hj]) y y
  have w0 := ps y
  generalize sumN n (fun k => nth ns k * y k) = q at *
  generalize dotI x ns = dt at *
  generalize bil n (matOf F) (nth x) y = g at *
  generalize bil n (matOf F) (nth x) (nth x) = A at *
  generalize bil n (matOf F) y y = B at *
  generalize bil n (matOf O) y y = V at *
  generalize bil n (matOf R) y y = U at *
  -- c z q q <= dt m B
  have k1 : c * z * (q * q) ≤ dt * (m * B) := by
    have h1 : g * g * (m * m) ≤ A * B * (m * m) := Int.mul_le_mul_of_nonneg_right cs (Int.le_of_lt (Int.mul_pos m0 m0))
    have h2 : g * g * (m * m) = (c * z * q) * (c * z * q) := by rw [← exy]; simp only [Int.mul_assoc, Int.mul_comm, Int.mul_left_comm]
    have h3 : A * B * (m * m) = (c * z * dt) * (m * B) := by rw [← exx]; simp only [Int.mul_assoc, Int.mul_comm, Int.mul_left_comm]
    rw [h2, h3] at h1
    have cz : 0 < c * z := Int.mul_pos c0 z0
    have h4 : c * z * q * (c * z * q) = (c * z) * (c * z * (q * q)) := by simp only [Int.mul_assoc, Int.mul_comm, Int.mul_left_comm]
    have h5 : c * z * dt * (m * B) = (c * z) * (dt * (m * B)) := by simp only [Int.mul_assoc]
    rw [h4, h5] at h1
    exact Int.le_of_mul_le_mul_left h1 cz
  have k2 : p.1 * (q * q) * c ≤ p.2 * m * m * B := by
    have h1 : p.2 * m * (c * z * (q * q)) ≤ p.2 * m * (dt * (m * B)) := Int.mul_le_mul_of_nonneg_left k1 (Int.le_of_lt (Int.mul_pos p0 m0))
    have h2 : p.2 * m * (c * z * (q * q)) = (p.2 * (z * m)) * (c * (q * q)) := by simp only [Int.mul_assoc, Int.mul_comm, Int.mul_left_comm]
    rw [h2, ← e] at h1
    have h3 : p.1 * dt * (c * (q * q)) = dt * (p.1 * (q * q) * c) := by simp only [Int.mul_assoc, Int.mul_comm, Int.mul_left_comm]
    have h4 : p.2 * m * (dt * (m * B)) = dt * (p.2 * m * m * B) := by simp only [Int.mul_assoc, Int.mul_comm, Int.mul_left_comm]
    rw [h3, h4] at h1
    exact Int.le_of_mul_le_mul_left h1 dp
  have k3 : 0 ≤ B * o + V * (-c) := by
    refine Classical.byContradiction fun hn => ?_
    have pm : 0 < p.2 * m * m := Int.mul_pos (Int.mul_pos p0 m0) m0
    have h1 := Int.mul_neg_of_neg_of_pos (show B * o + V * (-c) < 0 by omega) pm
    have h2 : (B * o + V * (-c)) * (p.2 * m * m) = o * (p.2 * m * m * B) - (V * (p.2 * m * m)) * c := by
      rw [Int.add_mul, Int.mul_neg, Int.neg_mul, ← Int.sub_eq_add_neg]
      congr 1 <;> simp only [Int.mul_assoc, Int.mul_comm, Int.mul_left_comm]
    rw [h2, b2] at h1
    have h3 : p.1 * (q * q) * o * c = o * (p.1 * (q * q) * c) := by simp only [Int.mul_assoc, Int.mul_comm, Int.mul_left_comm]
    rw [h3] at h1
    have h4 := Int.mul_le_mul_of_nonneg_left k2 (Int.le_of_lt o0)
    omega
  have k4 : 0 ≤ U * (c * o) := by rw [b1]; exact Int.mul_nonneg k3 (Int.le_of_lt d0)
  refine Classical.byContradiction fun hn => ?_
  have := Int.mul_neg_of_neg_of_pos (show U < 0 by omega) (Int.mul_pos c0 o0)
  omega
theorem Rest.ker (h : Rest F c n ns m p O o R d) (c0 : 0 < c) (m0 : 0 < m) (p0 : 0 < p.2) (hl : F.length = n) (ln : ns.length = n) {x : List Int} {z : Int} (s : Sol F c ns m n x z) (e : p.1 * dotI x ns = p.2 * (z * m)) : Ker n R x := fun r hr => by
  obtain ⟨k, hk⟩ := List.mem_iff_getElem?.mp hr
  have kn : k < n := by have := (List.getElem?_eq_some_iff.mp hk).1; rw [h.fr.len] at this; exact this
  have o0 := h.fo.tab.pos
  have dx : dotI x ns = sumN n fun j => nth ns j * nth x j := by
    rw [dotI_sum (by rw [s.len, ln]), s.len]
    exact sumN_congr fun i _ => Int.mul_comm _ _
  have e1 : dot n r x = sumN n fun j => matOf R k j * nth x j := sumN_congr fun j _ => by rw [mat_of_get hk]
  rw [e1]
  have sF := s.eq k (by omega)
  have sO : sumN n (fun j => matOf O k j * nth x j) * (p.2 * m * m) = p.1 * nth ns k * dotI x ns * o := by
    rw [dx, ← sumN_mul', ← sumN_mul, ← sumN_mul']
    refine sumN_congr fun j hj => ?_
    rw [Int.mul_right_comm, h.fo.eq k kn j hj]
    simp only [Int.mul_assoc, Int.mul_comm, Int.mul_left_comm]
  have sR : sumN n (fun j => matOf R k j * nth x j) * (c * o) = (sumN n (fun j => matOf F k j * nth x j) * o - sumN n (fun j => matOf O k j * nth x j) * c) * d := by
    rw [← sumN_mul', ← sumN_mul', ← sumN_mul', ← sumN_sub, ← sumN_mul']
    refine sumN_congr fun j hj => ?_
    rw [Int.mul_right_comm, h.fr.eq k kn j hj, Int.sub_mul, Int.sub_mul, Int.sub_mul]
    congr 1 <;> simp only [Int.mul_assoc, Int.mul_comm, Int.mul_left_comm]
  generalize sumN n (fun j => matOf R k j * nth x j) = u at *
  generalize sumN n (fun j => matOf F k j * nth x j) = f at *
  generalize sumN n (fun j => matOf O k j * nth x j) = v at *
  generalize dotI x ns = dt at *
  have k1 : (f * o - v * c) * (p.2 * m * m) = 0 := by
    rw [Int.sub_mul]
    have h1 : f * o * (p.2 * m * m) = (f * m) * (o * p.2 * m) := by simp only [Int.mul_assoc, Int.mul_comm, Int.mul_left_comm]
    have h2 : v * c * (p.2 * m * m) = (v * (p.2 * m * m)) * c := by simp only [Int.mul_assoc, Int.mul_comm, Int.mul_left_comm]
    rw [h1, h2, sF, sO]
    have h3 : p.1 * nth ns k * dt * o * c = (p.1 * dt) * (nth ns k * o * c) := by simp only [Int.mul_assoc, Int.mul_comm, Int.mul_left_comm]
    rw [h3, e]
    have h4 : nth ns k * c * z * (o * p.2 * m) = p.2 * (z * m) * (nth ns k * o * c) := by simp only [Int.mul_assoc, Int.mul_comm, Int.mul_left_comm]
    rw [h4, Int.sub_self]
  have pm : p.2 * m * m ≠ 0 := Int.mul_ne_zero (Int.mul_ne_zero (by omega) (by omega)) (by omega)
  have k2 : f * o - v * c = 0 := by
    rcases Int.mul_eq_zero.mp k1 with h | h
    · exact h
    · exact absurd h pm
  rw [k2, Int.zero_mul] at sR
  rcases Int.mul_eq_zero.mp sR with h | h
  · exact h
  · exact absurd h (Int.mul_ne_zero (by omega) (by omega))
end
end GW
set_option exponentiation.threshold 20000
/-! Core 105: the way that tells that a table is no spread. -/
namespace GW
open PySem
def plc (x : List Int) : Nat := (nzs x).headD 0
theorem plc_is {x : List Int} {q : Nat} (hq : q < x.length) (h0 : ∀ i, i < q → nth x i = 0) (h1 : nth x q ≠ 0) : plc x = q := by
  obtain ⟨t, e⟩ := nzs_head hq h0 h1
  unfold plc
  rw [e]; rfl
theorem GoodStep.plc {p : StepT} {n q : Nat} (g : GoodStep p n q) : GW.plc p.2.1 = q := plc_is (by rw [g.len]; exact g.qn) g.ahd (by rw [g.one]; have := g.row.pos; omega)
def fwY (T : List (List Int)) (c : Int) (a n : Nat) : List Int × Int :=
  if nth (T.getD a []) a < 0 then ((List.replicate n 0).set a 1, 1)
  else (((List.replicate n 0).set (plc (T.getD a [])) (2 * nth (T.getD a []) (plc (T.getD a [])))).set a (0 - nth (T.getD (plc (T.getD a [])) []) (plc (T.getD a [])) - c), 2 * nth (T.getD a []) (plc (T.getD a [])))
def dstep (s : StepT) (p : List Int × Int) : List Int × Int := ((p.1.map fun v => v * s.2.2).set (plc s.2.1) (0 - dotI s.2.1 p.1), p.2 * s.2.2)
def dirY (st : List StepT) (p : List Int × Int) : List Int × Int := st.foldr dstep p
structure Stuck (T : List (List Int)) (a n : Nat) : Prop where
  an : a < n
  no : nth (T.getD a []) a < 0 ∨ (nth (T.getD a []) a = 0 ∧ ¬ ∀ x ∈ T.getD a [], x = 0)
section
variable {T : List (List Int)} {c : Int} {a n : Nat}
theorem first_nz {x : List Int} (h : ¬ ∀ v ∈ x, v = 0) : plc x < x.length ∧ nth x (plc x) ≠ 0 ∧ nzs x = plc x :: (nzs x).tail := by
  have : ∃ q, q < x.length ∧ nth x q ≠ 0 ∧ ∀ i, i < q → nth x i = 0 := by
    have key : ∀ (m : Nat), m ≤ x.length → (∀ i, i < m → nth x i = 0) ∨ ∃ q, q < m ∧ nth x q ≠ 0 ∧ ∀ i, i < q → nth x i = 0 := by
      intro m
      induction m with
      | zero => intro _; exact .inl fun i hi => by omega
      | succ m ih =>
        intro hm
        rcases ih (by omega) with h | ⟨q, h1, h2, h3⟩
        · by_cases hz : nth x m = 0
          · refine .inl fun i hi => ?_
            by_cases e : i = m
            · rw [e]; exact hz
            · exact h i (by omega)
          · exact .inr ⟨m, by omega, hz, h⟩
        · exact .inr ⟨q, by omega, h2, h3⟩
    rcases key x.length (Nat.le_refl _) with h' | ⟨q, h1, h2, h3⟩
    · exact absurd (fun v hv => by obtain ⟨i, hi, rfl⟩ := mem_nth hv; exact h' i hi) h
    · exact ⟨q, h1, h2, h3⟩
  obtain ⟨q, h1, h2, h3⟩ := this
  obtain ⟨t, e⟩ := nzs_head h1 h3 h2
  have hp := plc_is h1 h3 h2
  rw [hp]
  exact ⟨h1, h2, by rw [e]; rfl⟩
theorem nth_set {x : List Int} {i j : Nat} {v : Int} (hi : i < x.length) : nth (x.set i v) j = if j = i then v else nth x j := by
  unfold nth
  rw [List.getD_eq_getElem?_getD, List.getElem?_set]
  by_cases e : j = i
  · subst e
    rw [if_pos rfl, if_pos hi, if_pos rfl]; rfl
  · rw [if_neg (Ne.symm e), if_neg e, ← List.getD_eq_getElem?_getD]
end
section
variable {P : Pg} {fu d : Nat}
end
end GW
set_option exponentiation.threshold 20000
/-! Core 106: direction_of, walked. -/
namespace GW
open PySem
def DirLt (st : List StepT) (p : List Int × Int) : Prop := ∀ j, j ≤ st.length → (dirY (st.drop j) p).2.natAbs < 2 ^ 4400 ∧ ∀ i, (nth (dirY (st.drop j) p).1 i).natAbs < 2 ^ 4400
theorem IsR.neg {x y : Int} (h : IsR x y) : IsR (0 - x) y := ⟨h.pos, by rw [Int.zero_sub, Int.neg_gcd]; exact h.low⟩
section
variable {P : Pg} {fu d : Nat}
end
end GW
set_option exponentiation.threshold 20000
/-! Core 107: sorted_out and wider_by, whatever the table. -/
namespace GW
open PySem
theorem stg_stuck {rs : List (List Int)} {b : Int} {n : Nat} : ∀ m, m ≤ n → ∀ k, (stg rs b m).sp = some k → Stuck (stg rs b m).tb k n ∧ k < m
  | 0, _ => fun k h => by cases h
  | m + 1, hm => fun k h => by
    have ih := stg_stuck (rs := rs) (b := b) (n := n) m (by omega)
    change (stp m (stg rs b m)).sp = some k at h
    show Stuck (stp m (stg rs b m)).tb k n ∧ k < m + 1
    generalize stg rs b m = s at *
    cases hsp : s.sp with
    | some k' =>
      have e : stp m s = s := by unfold stp; rw [hsp]
      rw [e] at h ⊢
      obtain ⟨h1, h2⟩ := ih k h
      exact ⟨h1, by omega⟩
    | none =>
      rcases stp_cases m s hsp with ⟨c1, e⟩ | ⟨hp, e⟩ | ⟨_, _, e⟩
      · rw [e] at h ⊢
        have hk : m = k := by injection h
        subst hk
        exact ⟨⟨by omega, c1⟩, by omega⟩
      · rw [e] at h; cases h
      · rw [e] at h; rw [hsp] at h; cases h
structure Tel (rs : List (List Int)) (b : Int) (n : Nat) : Prop where
  tab : IsTab rs b n
  len : rs.length = n
  mir : colsL rs n = rs
  bd : StB rs b n
  all : ∀ p ∈ (stg rs b n).st, ∃ q, GoodStep p n q
  few : (stg rs b n).st.length ≤ 12
  dl : ∀ k, (stg rs b n).sp = some k → DirLt (stg rs b n).st (fwY (stg rs b n).tb (stg rs b n).bt k n)
noncomputable def dirS (rs : List (List Int)) (b : Int) (n k : Nat) : List Int × Int := rowOf (dirY (stg rs b n).st (fwY (stg rs b n).tb (stg rs b n).bt k n)).1 (dirY (stg rs b n).st (fwY (stg rs b n).tb (stg rs b n).bt k n)).2
section
variable {P : Pg} {fu d : Nat}
theorem Spr.tel {rs : List (List Int)} {b : Int} {n : Nat} (s : Spr rs b n) (all : ∀ p ∈ (stg rs b n).st, ∃ q, GoodStep p n q) (few : (stg rs b n).st.length ≤ 12) : Tel rs b n := ⟨s.tab, s.len, s.mir, s.bd, all, few, fun k hk => by rw [s.sp] at hk; cases hk⟩
end
end GW
set_option exponentiation.threshold 20000
/-! Core 108: what the way told is worth: below nought. -/
namespace GW
open PySem
section
variable {n : Nat}
theorem stop_at {rs : List (List Int)} {b : Int} : ∀ m k, (stg rs b m).sp = some k → k < m ∧ (stg rs b k).sp = none ∧ stg rs b m = { stg rs b k with sp := some k }
  | 0, k, h => by cases h
  | m + 1, k, h => by
    have ih := stop_at (rs := rs) (b := b) m
    change (stp m (stg rs b m)).sp = some k at h
    cases hsp : (stg rs b m).sp with
    | some k' =>
      have e : stp m (stg rs b m) = stg rs b m := by unfold stp; rw [hsp]
      rw [e] at h
      obtain ⟨h1, h2, h3⟩ := ih k h
      exact ⟨by omega, h2, by rw [← h3]; exact e⟩
    | none =>
      rcases stp_cases m (stg rs b m) hsp with ⟨c1, e⟩ | ⟨hp, e⟩ | ⟨_, _, e⟩
      · rw [e] at h
        have hk : m = k := by injection h
        subst hk
        exact ⟨Nat.lt_succ_self _, hsp, e⟩
      · rw [e] at h; cases h
      · rw [e] at h; rw [hsp] at h; cases h
theorem dir_back {fy : List Int} {fD : Int} (fl : fy.length = n) : ∀ (st : List StepT) (qs : List Nat), qs.length = st.length → qs.Pairwise (· < ·) → (∀ (k : Nat) (p : StepT) (q : Nat), st[k]? = some p → qs[k]? = some q → GoodStep p n q) → (∀ q ∈ qs, nth fy q = 0) →
    (dirY st (fy, fD)).1.length = n ∧ (∃ C : Int, 0 < C ∧ ∀ i, i ∉ qs → nth (dirY st (fy, fD)).1 i = C * nth fy i) ∧ ∀ p ∈ st, dotI p.2.1 (dirY st (fy, fD)).1 = 0
  | [], qs, hl, _, _, _ => by
    have : qs = [] := List.length_eq_zero_iff.mp hl
    subst this
    exact ⟨fl, ⟨1, by decide, fun i _ => (Int.one_mul _).symm⟩, fun p hp => (nomatch hp)⟩
  | s :: st, [], hl, _, _, _ => by simp at hl
  | s :: st, q :: qs, hl, hp, hg, hz => by
    obtain ⟨p1, p2⟩ := List.pairwise_cons.mp hp
    have g := hg 0 s q rfl rfl
    obtain ⟨i1, ⟨C, C0, i2⟩, i3⟩ := dir_back fl st qs (by simpa using hl) p2 (fun k p q h1 h2 => hg (k + 1) p q (by simpa using h1) (by simpa using h2)) (fun q hq => hz q (List.mem_cons_of_mem _ hq))
    have e : dirY (s :: st) (fy, fD) = dstep s (dirY st (fy, fD)) := rfl
    rw [e]
    generalize dirY st (fy, fD) = Y at *
    have cx := g.row.pos
    have qY : nth Y.1 q = 0 := by
      rw [i2 q (fun hm => by have := p1 q hm; omega), hz q (List.mem_cons_self ..), Int.mul_zero]
    have ml : (Y.1.map fun v => v * s.2.2).length = n := by rw [List.length_map]; exact i1
    have at' : ∀ i, nth (dstep s Y).1 i = if i = q then 0 - dotI s.2.1 Y.1 else nth Y.1 i * s.2.2 := fun i => by
      unfold dstep
      dsimp only
      rw [g.plc, nth_set (by rw [ml]; exact g.qn), nth_map (f := fun v => v * s.2.2) (Int.zero_mul _)]
    have dl : (dstep s Y).1.length = n := by unfold dstep; dsimp only; rw [List.length_set]; exact ml
    refine ⟨dl, ⟨C * s.2.2, Int.mul_pos C0 cx, fun i hi => ?_⟩, fun p hp' => ?_⟩
    · have iq : i ≠ q := fun z => hi (by rw [z]; exact List.mem_cons_self ..)
      rw [at' i, if_neg iq, i2 i fun hm => hi (List.mem_cons_of_mem _ hm), Int.mul_right_comm]
    · rcases List.mem_cons.mp hp' with rfl | hp'
      · have sl := g.len
        rw [dotI_sum (by rw [sl, dl]), sl]
        rw [sumN_congr (g := fun i => nth p.2.1 i * nth Y.1 i * p.2.2 + if i = q then -(p.2.2 * dotI p.2.1 Y.1) else 0) fun i hi => by
          rw [at' i]
          by_cases iq : i = q
          · subst iq
            rw [if_pos rfl, if_pos rfl, g.one, qY, Int.mul_zero, Int.zero_mul, Int.zero_add, Int.zero_sub, Int.mul_neg]
          · rw [if_neg iq, if_neg iq, Int.add_zero, Int.mul_assoc], sumN_add, sumN_mul']
        rw [sumN_one g.qn fun i _ ne => if_neg ne, if_pos rfl]
        have : sumN n (fun i => nth p.2.1 i * nth Y.1 i) = dotI p.2.1 Y.1 := by rw [dotI_sum (by rw [sl, i1]), sl]
        rw [this, Int.mul_comm]
        omega
      · obtain ⟨k, hk⟩ := List.mem_iff_getElem?.mp hp'
        have kl := (List.getElem?_eq_some_iff.mp hk).1
        have hq' := List.getElem?_eq_getElem (show k < qs.length by simp at hl; omega)
        have g' := hg (k + 1) p _ (by rw [List.getElem?_cons_succ]; exact hk) (by rw [List.getElem?_cons_succ]; exact hq')
        have lt := p1 _ (List.mem_of_getElem? hq')
        have sl := g'.len
        have x0 := g'.ahd q lt
        have d0 := i3 p hp'
        rw [dotI_sum (by rw [sl, i1]), sl] at d0
        rw [dotI_sum (by rw [sl, dl]), sl]
        rw [sumN_congr (g := fun i => nth p.2.1 i * nth Y.1 i * s.2.2) fun i hi => by
          rw [at' i]
          by_cases iq : i = q
          · subst iq
            rw [if_pos rfl, x0]; simp
          · rw [if_neg iq, Int.mul_assoc], sumN_mul', d0, Int.zero_mul]
theorem acc_zero {y : List Int} : ∀ st : List StepT, (∀ p ∈ st, dotI p.2.1 y = 0 ∧ p.2.1.length = n ∧ y.length = n) → bil n (accG st) (nth y) (nth y) = 0 := rev_ind (fun _ => sumN_zero fun j _ => by
      have : cmb n (accG []) (nth y) j = 0 := sumN_zero fun i _ => by rw [accG_nil, Int.mul_zero]
      rw [this, Int.zero_mul]) fun st s ih h => by
  have h' := ih fun p hp => h p (List.mem_append_left _ hp)
  obtain ⟨d0, sl, yl⟩ := h s (List.mem_append_right _ (List.mem_singleton.mpr rfl))
  have e : bil n (accG (st ++ [s])) (nth y) (nth y) = bil n (accG st) (nth y) (nth y) * byS s + s.1.1 * accE st * (sumN n (fun i => nth y i * nth s.2.1 i) * sumN n fun i => nth y i * nth s.2.1 i) := by
    rw [← bil_outer (fun i => nth s.2.1 i) (s.1.1 * accE st) (nth y), ← bil_scale, ← bil_plus]
    exact bil_congr (fun i _ j _ => by rw [accG_app]; congr 1; simp only [Int.mul_assoc, Int.mul_comm, Int.mul_left_comm]) _ _
  have z : sumN n (fun i => nth y i * nth s.2.1 i) = 0 := by
    rw [dotI_sum (by rw [sl, yl]), sl] at d0
    rw [← d0]
    exact sumN_congr fun i _ => Int.mul_comm _ _
  rw [e, h', z]; simp
end
end GW
set_option exponentiation.threshold 20000
/-! Core 109: the way told lies below nought. -/
namespace GW
open PySem
section
variable {n : Nat}
theorem bil_unit2 {M : Mt} {i j : Nat} (hi : i < n) (hj : j < n) : bil n M (unitF i) (unitF j) = M i j := by
  rw [bil_unit hj]
  unfold cmb unitF
  rw [sumN_one hi fun k _ ne => by show (if k = i then (1 : Int) else 0) * _ = 0; rw [if_neg ne, Int.zero_mul]]
  show (if i = i then (1 : Int) else 0) * _ = _
  rw [if_pos rfl, Int.one_mul]
theorem bil_congr2 {M : Mt} {x x' y y' : Nat → Int} (hx : ∀ i, i < n → x i = x' i) (hy : ∀ i, i < n → y i = y' i) : bil n M x y = bil n M x' y' := sumN_congr fun j hj => by
  rw [hy j hj]
  congr 1
  exact sumN_congr fun i hi => by rw [hx i hi]
theorem fw_neg {T : List (List Int)} {c : Int} {k : Nat} (t : IsTab T c n) (hl : T.length = n) (hs : ∀ i, i < n → ∀ j, j < n → matOf T i j = matOf T j i) (hst : Stuck T k n) (hz : ∀ i, i < k → ∀ j, j < n → matOf T i j = 0) : bil n (matOf T) (nth (fwY T c k n).1) (nth (fwY T c k n).1) < 0 ∧ (fwY T c k n).1.length = n ∧ ∀ q, q < k → nth (fwY T c k n).1 q = 0 := by
  have kn := hst.an
  have c0 := t.pos
  have wl := t.wd _ (getD_mem (show k < T.length by omega))
  have kk : nth (T.getD k []) k = matOf T k k := rfl
  have no := hst.no
  unfold fwY
  by_cases hneg : nth (T.getD k []) k < 0
  · rw [if_pos hneg]
    have e : ∀ i, nth ((List.replicate n (0 : Int)).set k 1) i = unitF k i := fun i => by
      rw [nth_set (by simpa using kn), nth_rep0]; rfl
    refine ⟨?_, by simp, fun q hq => by rw [e]; unfold unitF; rw [if_neg (by omega)]⟩
    rw [bil_congr2 (fun i _ => e i) (fun i _ => e i), bil_unit2 kn kn]
    exact hneg
  · rw [if_neg hneg]
    have h2 : nth (T.getD k []) k = 0 ∧ ¬ ∀ x ∈ T.getD k [], x = 0 := by
      rcases no with h | h
      · exact absurd h hneg
      · exact h
    obtain ⟨p1, p2, _⟩ := first_nz h2.2
    have z0 : matOf T k k = 0 := h2.1
    generalize hb : plc (T.getD k []) = bp at *
    have bn : bp < n := by omega
    have g0 : matOf T k bp ≠ 0 := p2
    have gk : nth (T.getD k []) bp = matOf T k bp := rfl
    have gb : nth (T.getD bp []) bp = matOf T bp bp := rfl
    have bk : ¬ bp < k := fun h => g0 (by rw [hs k kn bp bn]; exact hz bp h k kn)
    have bk2 : bp ≠ k := fun h => g0 (by rw [h]; exact z0)
    rw [gk, gb]
    have e : ∀ i, nth (((List.replicate n (0 : Int)).set bp (2 * matOf T k bp)).set k (0 - matOf T bp bp - c)) i = (0 - matOf T bp bp - c) * unitF k i + (2 * matOf T k bp) * unitF bp i := fun i => by
      rw [nth_set (by simpa using kn), nth_set (by simpa using bn), nth_rep0]
      unfold unitF
      by_cases h1 : i = k
      · rw [if_pos h1, if_pos h1, if_neg (show ¬ i = bp by omega)]; simp
      · rw [if_neg h1, if_neg h1]
        by_cases h3 : i = bp
        · rw [if_pos h3, if_pos h3]; simp
        · rw [if_neg h3, if_neg h3]; simp
    refine ⟨?_, by simp, fun q hq => ?_⟩
    · rw [bil_congr2 (fun i _ => e i) (fun i _ => e i), bil_two hs, bil_unit2 kn kn, bil_unit2 kn bn, bil_unit2 bn bn, z0, Int.mul_zero, Int.zero_add]
      generalize matOf T k bp = g at *
      generalize matOf T bp bp = w at *
      have e1 : 2 * ((0 - w - c) * (2 * g)) * g + 2 * g * (2 * g) * w = -(4 * (c * (g * g))) := by
        have a1 : 2 * ((0 - w - c) * (2 * g)) * g = 4 * ((0 - w - c) * (g * g)) := by
          rw [show 2 * ((0 - w - c) * (2 * g)) * g = (2 * 2) * ((0 - w - c) * (g * g)) by simp only [Int.mul_assoc, Int.mul_comm, Int.mul_left_comm]]; rfl
        have a2 : 2 * g * (2 * g) * w = 4 * (w * (g * g)) := by
          rw [show 2 * g * (2 * g) * w = (2 * 2) * (w * (g * g)) by simp only [Int.mul_assoc, Int.mul_comm, Int.mul_left_comm]]; rfl
        rw [a1, a2, Int.sub_mul, Int.sub_mul, Int.zero_mul]
        omega
      rw [e1]
      have := Int.mul_pos c0 (sq_pos g0)
      omega
    · rw [e]
      unfold unitF
      rw [if_neg (by omega), if_neg (by omega)]; simp
theorem dir_neg {rs : List (List Int)} {b : Int} {K : Nat} (hK : (K + 4) * n + 2 * K + 9 ≤ 2000) (t : IsTab rs b n) (hl : rs.length = n) (hs : ∀ i, i < n → ∀ j, j < n → matOf rs i j = matOf rs j i) (hk : Bdd K rs.flatten b) {k : Nat} (hsp : (stg rs b n).sp = some k) :
    bil n (matOf rs) (nth (dirY (stg rs b n).st (fwY (stg rs b n).tb (stg rs b n).bt k n)).1) (nth (dirY (stg rs b n).st (fwY (stg rs b n).tb (stg rs b n).bt k n)).1) < 0 ∧ (dirY (stg rs b n).st (fwY (stg rs b n).tb (stg rs b n).bt k n)).1.length = n := by
  obtain ⟨kn, hn, he⟩ := stop_at n k hsp
  have st := (stg_stuck (rs := rs) (b := b) (n := n) n (Nat.le_refl _) k hsp).1
  have A := stg_acc hK t hl hs hk k (by omega)
  obtain ⟨P, hP, h⟩ := stg_sch hK t hl hs hk k (by omega)
  rw [he] at st ⊢
  dsimp only at st ⊢
  generalize stg rs b k = s at *
  have hz := A.zero hn
  obtain ⟨n1, n2, n3⟩ := fw_neg h.tab h.len h.sym st hz
  obtain ⟨qs, ql, qi, qm, qg⟩ := A.good
  have fb := dir_back (fD := (fwY s.tb s.bt k n).2) n2 s.st qs ql qi qg fun q hq => n3 q (qm q hq)
  have ee : ((fwY s.tb s.bt k n).1, (fwY s.tb s.bt k n).2) = fwY s.tb s.bt k n := rfl
  rw [ee] at fb
  obtain ⟨yl, ⟨C, C0, yC⟩, yd⟩ := fb
  refine ⟨?_, yl⟩
  generalize (dirY s.st (fwY s.tb s.bt k n)).1 = y at *
  have gz : bil n (accG s.st) (nth y) (nth y) = 0 := acc_zero s.st fun p hp => by
    obtain ⟨i, hi⟩ := List.mem_iff_getElem?.mp hp
    have il := (List.getElem?_eq_some_iff.mp hi).1
    exact ⟨yd p hp, (qg i p _ hi (List.getElem?_eq_getElem (show i < qs.length by omega))).len, yl⟩
  have tz : bil n (matOf s.tb) (nth y) (nth y) = C * C * bil n (matOf s.tb) (nth (fwY s.tb s.bt k n).1) (nth (fwY s.tb s.bt k n).1) := by
    unfold bil
    rw [← sumN_mul]
    refine sumN_congr fun j hj => ?_
    have cj : cmb n (matOf s.tb) (nth y) j = C * cmb n (matOf s.tb) (nth (fwY s.tb s.bt k n).1) j := by
      unfold cmb
      rw [← sumN_mul]
      refine sumN_congr fun i hi => ?_
      by_cases ik : i < k
      · rw [hz i ik j hj]; simp
      · rw [yC i fun hm => ik (qm i hm), Int.mul_assoc]
    rw [cj]
    by_cases jk : j < k
    · have : cmb n (matOf s.tb) (nth (fwY s.tb s.bt k n).1) j = 0 := sumN_zero fun i hi => by rw [h.sym i hi j hj, hz j jk i hi, Int.mul_zero]
      rw [this]; simp
    · rw [yC j fun hm => jk (qm j hm)]
      simp only [Int.mul_assoc, Int.mul_comm, Int.mul_left_comm]
  have E0 := A.pos
  have c0 := h.tab.pos
  have b0 := t.pos
  have bm : bil n (matOf rs) (nth y) (nth y) * (accE s.st * s.bt) = (bil n (accG s.st) (nth y) (nth y) * s.bt + bil n (matOf s.tb) (nth y) (nth y) * accE s.st) * b := by
    rw [← bil_scale, ← bil_scale, ← bil_scale, ← bil_plus, ← bil_scale]
    exact bil_congr (fun i hi j hj => by rw [← Int.mul_assoc, A.eq i hi j hj, Int.mul_comm]) _ _
  rw [gz, Int.zero_mul, Int.zero_add, tz] at bm
  have neg : C * C * bil n (matOf s.tb) (nth (fwY s.tb s.bt k n).1) (nth (fwY s.tb s.bt k n).1) * accE s.st * b < 0 :=
    Int.mul_neg_of_neg_of_pos (Int.mul_neg_of_neg_of_pos (Int.mul_neg_of_pos_of_neg (Int.mul_pos C0 C0) n1) E0) b0
  rw [← bm] at neg
  refine Classical.byContradiction fun hn' => ?_
  have := Int.mul_nonneg (show 0 ≤ bil n (matOf rs) (nth y) (nth y) by omega) (Int.le_of_lt (Int.mul_pos E0 c0))
  omega
end
end GW
set_option exponentiation.threshold 20000
/-! Core 110: which tables may be asked for a way below nought; the wanted steps, whatever the thing. -/
namespace GW
open PySem
structure StepLe (B n : Nat) (p : StepT) : Prop where
  ns : ∀ i, (nth p.2.1 i).natAbs ≤ 2 ^ B
  b : p.2.2.natAbs ≤ 2 ^ B
  len : p.2.1.length = n
theorem Tel.spr {rs : List (List Int)} {b : Int} {n : Nat} (t : Tel rs b n) (h : (stg rs b n).sp = none) : Spr rs b n := ⟨t.tab, t.len, t.mir, t.bd, h⟩
theorem Tel.b0 {rs : List (List Int)} {b : Int} {n : Nat} (h : Tel rs b n) : Bdd 2000 rs.flatten b := h.bd 0 (Nat.zero_le _)
def BadT (v many : Val) : Prop := isTab v = false ∨ ∃ rs b w, v = tabV rs b ∧ IsTab rs b w ∧ (colsL rs w ≠ rs ∨ ∃ k : Int, many = .int k ∧ k ≠ rs.length)
section
variable {P : Pg} {fu d : Nat}
end
end GW
set_option exponentiation.threshold 20000
/-! Core 111: ratios as rationals; sums of lists of them, as laws reckon. -/
namespace GW
open PySem
/-! ### rationals -/
def rP (q : Rat) : Int × Int := (q.num, (q.den : Int))
def rV (q : Rat) : Val := ratV (rP q)
theorem rden (q : Rat) : (0 : Int) < q.den := by have := q.den_pos; omega
theorem rden0 (q : Rat) : ((q.den : Int) : Rat) ≠ 0 := by
  have := rden q
  intro h
  have : ((q.den : Int) : Rat) = ((0 : Int) : Rat) := h
  rw [Rat.intCast_inj] at this
  omega
theorem icast0 {b : Int} (h : b ≠ 0) : (b : Rat) ≠ 0 := fun e => h (by
  have : (b : Rat) = ((0 : Int) : Rat) := e
  rwa [Rat.intCast_inj] at this)
theorem rself (q : Rat) : (q.num : Rat) / ((q.den : Int) : Rat) = q := by
  have := Rat.num_divInt_den q
  rw [Rat.divInt_eq_div] at this
  exact this
theorem rmul (q : Rat) : q * ((q.den : Int) : Rat) = q.num := by
  have h := rself q
  have h0 := rden0 q
  grind
theorem rP_is (q : Rat) : IsR (rP q).1 (rP q).2 := ⟨rden q, by
  have := q.reduced
  show Int.gcd q.num q.den = 1
  unfold Int.gcd
  exact this⟩
theorem rP_of {x y : Int} (h : IsR x y) {q : Rat} (e : q * (y : Rat) = x) : (x, y) = rP q := by
  have hy := h.pos
  obtain ⟨e1, e2⟩ := h.uniq (rP_is q) (by
    show x * (q.den : Int) = q.num * y
    have h1 := rmul q
    have : ((x * (q.den : Int) : Int) : Rat) = ((q.num * y : Int) : Rat) := by
      rw [Rat.intCast_mul, Rat.intCast_mul]
      grind
    rwa [Rat.intCast_inj] at this)
  rw [e1, e2]
theorem lowP_q {t b : Int} (hb : b ≠ 0) {q : Rat} (e : q * (b : Rat) = t) : lowP t b = rP q := by
  obtain ⟨h1, h2⟩ := lowP_is t hb
  have h0 := icast0 hb
  have : (((lowP t b).1 * b : Int) : Rat) = ((t * (lowP t b).2 : Int) : Rat) := by rw [h2]
  rw [Rat.intCast_mul, Rat.intCast_mul] at this
  have hy := h1.pos
  have z := rP_of h1 (q := q) (by grind)
  rw [← z]
structure Rs (k : Nat) (q : Rat) : Prop where
  n : q.num.natAbs < 2 ^ k
  d : q.den < 2 ^ k
theorem Rs.up {k m : Nat} {q : Rat} (h : Rs k q) (hm : k ≤ m) : Rs m q := ⟨pow_up h.n hm, pow_up h.d hm⟩
theorem Rs.of {k : Nat} {t b : Int} (hb : b ≠ 0) {q : Rat} (e : q * (b : Rat) = t) (ht : t.natAbs < 2 ^ k) (kb : b.natAbs < 2 ^ k) : Rs k q := by
  have z := lowP_q hb e
  obtain ⟨x, y, ev, _, _, _, xle, yle⟩ := low_parts t hb
  rw [lowP_v, z] at ev
  unfold rP ratV at ev
  injection ev with ev
  injection ev with e1 ev
  injection ev with e2 _
  injection e1 with e1
  injection e2 with e2
  dsimp only at e1 e2
  rw [← e1] at xle
  rw [← e2] at yle
  refine ⟨by omega, ?_⟩
  rw [Int.natAbs_natCast] at yle
  omega
theorem plus_q (p q : Rat) : (p + q) * ((p.den * q.den : Int) : Rat) = ((p.num * q.den + q.num * p.den : Int) : Rat) := by
  have h1 := rmul p
  have h2 := rmul q
  rw [Rat.intCast_mul, Rat.intCast_add, Rat.intCast_mul, Rat.intCast_mul]
  grind
theorem minus_q (p q : Rat) : (p - q) * ((p.den * q.den : Int) : Rat) = ((p.num * q.den - q.num * p.den : Int) : Rat) := by
  have h1 := rmul p
  have h2 := rmul q
  rw [Rat.intCast_mul, Rat.intCast_sub, Rat.intCast_mul, Rat.intCast_mul]
  grind
theorem times_q (p q : Rat) : (p * q) * ((p.den * q.den : Int) : Rat) = ((p.num * q.num : Int) : Rat) := by
  have h1 := rmul p
  have h2 := rmul q
  rw [Rat.intCast_mul, Rat.intCast_mul]
  grind
theorem rnum0 {q : Rat} (h : q ≠ 0) : q.num ≠ 0 := fun e => h (Rat.num_eq_zero.mp e)
theorem over_q {p q : Rat} (h : q ≠ 0) : (p / q) * ((p.den * q.num : Int) : Rat) = ((p.num * q.den : Int) : Rat) := by
  have h1 := rmul p
  have h2 := rmul q
  have h3 := icast0 (rnum0 h)
  rw [Rat.intCast_mul, Rat.intCast_mul]
  grind
theorem den_bd {k : Nat} {q : Rat} (h : Rs k q) : (q.den : Int).natAbs < 2 ^ k := by rw [Int.natAbs_natCast]; exact h.d
theorem dd0 (p q : Rat) : (p.den * q.den : Int) ≠ 0 := Int.mul_ne_zero (by have := rden p; omega) (by have := rden q; omega)
theorem num_bd {k m : Nat} {p q : Rat} (h : Rs k p) (h' : Rs m q) : (p.num * q.den).natAbs < 2 ^ (k + m) ∧ (q.num * p.den).natAbs < 2 ^ (k + m) := ⟨mul_lt h.n (den_bd h'), by rw [Nat.add_comm]; exact mul_lt h'.n (den_bd h)⟩
theorem Rs.add {k m : Nat} {p q : Rat} (h : Rs k p) (h' : Rs m q) : Rs (k + m + 1) (p + q) := Rs.of (dd0 p q) (plus_q p q) (add_lt (num_bd h h').1 (num_bd h h').2) (pow_up (mul_lt (den_bd h) (den_bd h')) (by omega))
theorem Rs.sub {k m : Nat} {p q : Rat} (h : Rs k p) (h' : Rs m q) : Rs (k + m + 1) (p - q) := Rs.of (dd0 p q) (minus_q p q) (sub_lt (num_bd h h').1 (num_bd h h').2) (pow_up (mul_lt (den_bd h) (den_bd h')) (by omega))
theorem Rs.mul {k m : Nat} {p q : Rat} (h : Rs k p) (h' : Rs m q) : Rs (k + m) (p * q) := Rs.of (dd0 p q) (times_q p q) (mul_lt h.n h'.n) (mul_lt (den_bd h) (den_bd h'))
theorem Rs.div {k m : Nat} {p q : Rat} (h : Rs k p) (h' : Rs m q) (h0 : q ≠ 0) : Rs (k + m) (p / q) := Rs.of (Int.mul_ne_zero (by have := rden p; omega) (rnum0 h0)) (over_q h0) (mul_lt h.n (den_bd h')) (mul_lt (den_bd h) h'.n)
theorem Rs.int {k : Nat} {i : Int} (h : i.natAbs < 2 ^ k) : Rs (k + 1) (i : Rat) := ⟨pow_up h (by omega), by rw [Rat.den_intCast]; exact Nat.one_lt_two_pow (by omega)⟩
theorem Rs.zero (k : Nat) : Rs (k + 1) 0 := ⟨Nat.two_pow_pos _, Nat.one_lt_two_pow (by omega)⟩
theorem Rs.one (k : Nat) : Rs (k + 1) 1 := ⟨Nat.one_lt_two_pow (by omega), Nat.one_lt_two_pow (by omega)⟩
/-! ### what laws and the program do with two of them -/
section
variable {P : Pg} {fu d : Nat}
end
end GW
set_option exponentiation.threshold 20000
/-! Core 112: lists of rationals, as laws reckon with them. -/
namespace GW
open PySem
def Rz (k : Nat) (x : List Rat) : Prop := ∀ q ∈ x, Rs k q
def RzT (k : Nat) (M : List (List Rat)) : Prop := ∀ x ∈ M, Rz k x
theorem Rz.up {k m : Nat} {x : List Rat} (h : Rz k x) (hm : k ≤ m) : Rz m x := fun q hq => (h q hq).up hm
theorem RzT.up {k m : Nat} {M : List (List Rat)} (h : RzT k M) (hm : k ≤ m) : RzT m M := fun x hx => (h x hx).up hm
/-! plain sums -/
def mulQs (c : Rat) (x : List Rat) : List Rat := x.map fun q => c * q
def sumQ (x : List Rat) : Rat := x.foldl (· + ·) 0
def dotQ (x y : List Rat) : Rat := sumQ ((x.zip y).map fun p => p.1 * p.2)
def colsQ (M : List (List Rat)) (w : Nat) : List (List Rat) := (List.range w).map fun k => M.map fun r => r.getD k 0
def appQ (M : List (List Rat)) (x : List Rat) : List Rat := M.map fun r => dotQ r x
theorem Rz.times {k m : Nat} {c : Rat} {x : List Rat} (hc : Rs k c) (h : Rz m x) : Rz (k + m) (mulQs c x) := fun q hq => by
  obtain ⟨p, hp, rfl⟩ := List.mem_map.mp hq
  exact hc.mul (h _ hp)
def qn (x : List Rat) (i : Nat) : Rat := x.getD i 0
theorem qn_get {x : List Rat} {i : Nat} (h : i < x.length) : x[i]? = some (qn x i) := by
  unfold qn; rw [List.getD_eq_getElem?_getD, List.getElem?_eq_getElem h]; rfl
theorem qn_of {x : List Rat} {i : Nat} {q : Rat} (h : x[i]? = some q) : qn x i = q := by unfold qn; rw [List.getD_eq_getElem?_getD, h]; rfl
theorem qn_ge {x : List Rat} {i : Nat} (h : x.length ≤ i) : qn x i = 0 := by unfold qn; rw [List.getD_eq_getElem?_getD, List.getElem?_eq_none h]; rfl
theorem qn_mem {x : List Rat} {i : Nat} (h : i < x.length) : qn x i ∈ x := List.mem_of_getElem? (qn_get h)
theorem qn_ext {x y : List Rat} (hl : x.length = y.length) (h : ∀ i, i < x.length → qn x i = qn y i) : x = y := by
  refine List.ext_getElem? fun i => ?_
  by_cases hi : i < x.length
  · rw [qn_get hi, qn_get (by omega), h i hi]
  · rw [List.getElem?_eq_none (by omega), List.getElem?_eq_none (by omega)]
/-! bodies -/
/-! contracts -/
section
variable {P : Pg} {fu d : Nat}
theorem RzT.cols {k w : Nat} {M : List (List Rat)} (h : RzT k M) (hw : ∀ r ∈ M, r.length = w) : RzT k (colsQ M w) := fun c hc q hq => by
  obtain ⟨j, hj, rfl⟩ := List.mem_map.mp hc
  obtain ⟨r, hr, rfl⟩ := List.mem_map.mp hq
  have := hw r hr
  exact h r hr _ (qn_mem (by have := List.mem_range.mp hj; omega))
end
end GW
set_option exponentiation.threshold 20000
/-! Core 113: rows and tables of rationals, in their one form. -/
namespace GW
open PySem
def joinB (x : List Rat) : Int := botL (x.map rP)
def joinQ (x : List Rat) : List Int × Int := (overI (x.map rP) (joinB x), joinB x)
def rowR (x : List Rat) : Val := rowP (joinQ x)
def joinT (M : List (List Rat)) : List (List Int) × Int := (M.map fun r => overI (r.map rP) (joinB M.flatten), joinB M.flatten)
def tabR (M : List (List Rat)) : Val := tabV (joinT M).1 (joinT M).2
theorem joinB_all (x : List Rat) : 0 < joinB x ∧ (∀ q ∈ x, (q.den : Int) ∣ joinB x) ∧ ∀ z, (∀ q ∈ x, (q.den : Int) ∣ z) → joinB x ∣ z := by
  have big : ∃ k, ∀ q ∈ x, q.den < 2 ^ k := by
    induction x with
    | nil => exact ⟨0, fun q h => (by cases h)⟩
    | cons a x ih =>
      obtain ⟨k, h⟩ := ih
      refine ⟨k + a.den, fun q hq => ?_⟩
      rcases List.mem_cons.mp hq with rfl | hq
      · exact Nat.lt_of_lt_of_le Nat.lt_two_pow_self (Nat.pow_le_pow_right (by decide) (by omega))
      · exact Nat.lt_of_lt_of_le (h q hq) (Nat.pow_le_pow_right (by decide) (by omega))
  obtain ⟨k, hk⟩ := big
  obtain ⟨a1, _, a3, a4, _⟩ := lcmL_all (x.map rP) 1 k 1 (by decide) (fun p hp => by
    obtain ⟨q, hq, rfl⟩ := List.mem_map.mp hp
    refine ⟨rden q, ?_⟩
    show (q.den : Int).natAbs < _
    rw [Int.natAbs_natCast]; exact hk q hq) (by decide)
  refine ⟨a1, fun q hq => a3 (rP q) (List.mem_map_of_mem hq), fun z h => a4 z (Int.one_dvd _) fun p hp => ?_⟩
  obtain ⟨q, hq, rfl⟩ := List.mem_map.mp hp
  exact h q hq
theorem over_nth {x : List Rat} {B : Int} (h : ∀ q ∈ x, (q.den : Int) ∣ B) (i : Nat) : (nth (overI (x.map rP) B) i : Rat) = qn x i * B := by
  by_cases hi : i < x.length
  · have e : (overI (x.map rP) B)[i]? = some ((qn x i).num * B.fdiv (qn x i).den) := by
      unfold overI
      rw [List.getElem?_map, List.getElem?_map, qn_get hi]; rfl
    rw [nth_of_get e]
    obtain ⟨c, hc⟩ := h _ (qn_mem hi)
    have h0 := rden (qn x i)
    have e1 : B.fdiv (qn x i).den = c := by rw [hc]; exact Int.mul_fdiv_cancel_left c (by omega)
    rw [e1, hc, Rat.intCast_mul, Rat.intCast_mul]
    have := rmul (qn x i)
    grind
  · rw [nth_ge (by simp [overI]; omega), qn_ge (by omega)]
    show ((0 : Int) : Rat) = 0 * _
    rw [Rat.zero_mul]; rfl
theorem den_dvd {q : Rat} {y D : Int} (e : q * (D : Rat) = y) : (q.den : Int) ∣ D := by
  have h := rmul q
  have h0 := rden0 q
  have : ((q.num * D : Int) : Rat) = ((y * q.den : Int) : Rat) := by
    rw [Rat.intCast_mul, Rat.intCast_mul]; grind
  rw [Rat.intCast_inj] at this
  have d : (q.den : Int) ∣ q.num * D := ⟨y, by rw [this, Int.mul_comm]⟩
  have r : Int.gcd q.num (q.den : Int) = 1 := (rP_is q).low
  have : Int.gcd (q.den : Int) q.num = 1 := by rw [Int.gcd_comm]; exact r
  have h1 := Int.dvd_coe_gcd d (Int.dvd_mul_right (q.den : Int) D)
  rw [Int.gcd_mul_right, r, Nat.one_mul] at h1
  rw [← Int.natAbs_dvd_natAbs] at h1 ⊢
  simpa using h1
theorem join_low (x : List Rat) : gcdL (joinQ x).1 (joinQ x).2 = 1 := by
  obtain ⟨a1, a3, a4⟩ := joinB_all x
  obtain ⟨g1, g2⟩ := gcdL_dvd (joinQ x).1 (joinQ x).2
  have g0 := gcdL_pos (ns := (joinQ x).1) (b := (joinQ x).2) a1
  have ov := fun i => over_nth a3 i
  change gcdL (overI (x.map rP) (joinB x)) (joinB x) ∣ joinB x at g1
  show gcdL (overI (x.map rP) (joinB x)) (joinB x) = 1
  change ∀ y ∈ overI (x.map rP) (joinB x), gcdL (overI (x.map rP) (joinB x)) (joinB x) ∣ y at g2
  change 0 < gcdL (overI (x.map rP) (joinB x)) (joinB x) at g0
  generalize gcdL (overI (x.map rP) (joinB x)) (joinB x) = g at *
  obtain ⟨M, hM⟩ := g1
  have gr := icast0 (show g ≠ 0 by omega)
  have key : joinB x ∣ M := a4 M fun q hq => by
    obtain ⟨i, hi, rfl⟩ : ∃ i, i < x.length ∧ qn x i = q := by
      obtain ⟨i, hi⟩ := List.mem_iff_getElem?.mp hq
      exact ⟨i, (List.getElem?_eq_some_iff.mp hi).1, qn_of hi⟩
    obtain ⟨t, ht⟩ := g2 (nth (overI (x.map rP) (joinB x)) i) (nth_mem (by simp [overI]; omega))
    have := ov i
    rw [ht, hM, Rat.intCast_mul, Rat.intCast_mul] at this
    exact den_dvd (y := t) (by grind)
  obtain ⟨s, hs⟩ := key
  have e : joinB x * 1 = joinB x * (g * s) := by
    rw [Int.mul_one]
    calc joinB x = g * M := hM
      _ = g * (joinB x * s) := by rw [← hs]
      _ = joinB x * (g * s) := by rw [Int.mul_left_comm]
  have := Int.eq_of_mul_eq_mul_left (by omega) e
  exact Int.eq_one_of_mul_eq_one_right (Int.le_of_lt g0) this.symm
theorem join_len (x : List Rat) : (joinQ x).1.length = x.length := by simp [joinQ, overI]
theorem join_row {x : List Rat} (h1 : 1 ≤ x.length) (h2 : x.length ≤ 12) : IsRow (joinQ x).1 (joinQ x).2 := ⟨by rw [join_len]; exact h1, by rw [join_len]; exact h2, (joinB_all x).1, join_low x⟩
theorem join_nth (x : List Rat) (i : Nat) : (nth (joinQ x).1 i : Rat) = qn x i * (joinQ x).2 := over_nth (joinB_all x).2.1 i
theorem join_bd {k : Nat} {x : List Rat} {D : Int} (D0 : 0 < D) (kD : D.natAbs < 2 ^ k) (h : ∀ q ∈ x, ∃ y : Int, q * (D : Rat) = y ∧ y.natAbs < 2 ^ k) : Bdd k (joinQ x).1 (joinQ x).2 := by
  obtain ⟨a1, a3, a4⟩ := joinB_all x
  obtain ⟨s, hs⟩ := a4 D fun q hq => by
    obtain ⟨y, hy, _⟩ := h q hq
    exact den_dvd hy
  have s0 : 0 < s := Int.pos_of_mul_pos_left (by rw [Int.mul_comm, ← hs]; exact D0) a1
  refine ⟨fun z hz => ?_, ?_⟩
  · obtain ⟨i, hi, rfl⟩ := mem_nth hz
    rw [join_len] at hi
    obtain ⟨y, hy, hk⟩ := h _ (qn_mem hi)
    have e := join_nth x i
    change (nth (joinQ x).1 i : Rat) = qn x i * (joinB x : Rat) at e
    have : ((nth (joinQ x).1 i * s : Int) : Rat) = (y : Rat) := by
      rw [Rat.intCast_mul, e, ← hy, hs, Rat.intCast_mul]; grind
    rw [Rat.intCast_inj] at this
    refine Nat.lt_of_le_of_lt ?_ hk
    rw [← this, Int.natAbs_mul]
    exact Nat.le_mul_of_pos_right _ (by omega)
  · show (joinB x).natAbs < _
    refine Nat.lt_of_le_of_lt ?_ kD
    rw [hs, Int.natAbs_mul]
    exact Nat.le_mul_of_pos_right _ (by omega)
theorem row_is {x : List Rat} {ns : List Int} {b : Int} (r : IsRow ns b) (hl : ns.length = x.length) (e : ∀ i, i < x.length → (nth ns i : Rat) = qn x i * b) : joinQ x = (ns, b) := by
  have r' := join_row (x := x) (by rw [← hl]; exact r.lo) (by rw [← hl]; exact r.hi)
  obtain ⟨e1, e2⟩ := row_uniq r' r (by rw [join_len, hl]) fun i => by
    by_cases hi : i < x.length
    · have h1 := join_nth x i
      have h2 := e i hi
      have : ((nth (joinQ x).1 i * b : Int) : Rat) = ((nth ns i * (joinQ x).2 : Int) : Rat) := by
        rw [Rat.intCast_mul, Rat.intCast_mul, h1, h2]; grind
      rwa [Rat.intCast_inj] at this
    · rw [nth_ge (by rw [join_len]; omega), nth_ge (by omega)]; simp
  exact Prod.ext e1 e2
/-! tables -/
def tn (M : List (List Rat)) (i j : Nat) : Rat := qn (M.getD i []) j
theorem joinT_flat (M : List (List Rat)) : (joinT M).1.flatten = (joinQ M.flatten).1 := by
  show (M.map fun r => overI (r.map rP) (joinB M.flatten)).flatten = overI (M.flatten.map rP) (joinB M.flatten)
  unfold overI
  rw [List.map_map, List.map_flatten]
  congr 1
  refine List.map_congr_left fun r _ => ?_
  rw [List.map_map]
theorem joinT_tab {M : List (List Rat)} {w : Nat} (h1 : 1 ≤ M.length) (h2 : M.length ≤ 12) (w1 : 1 ≤ w) (w2 : w ≤ 12) (hw : ∀ r ∈ M, r.length = w) : IsTab (joinT M).1 (joinT M).2 w := ⟨by simpa [joinT] using h1, by simpa [joinT] using h2, w1, w2, fun r hr => by
  obtain ⟨x, hx, rfl⟩ := List.mem_map.mp hr
  simp [overI, hw x hx], (joinB_all _).1, by rw [joinT_flat]; exact join_low _⟩
end GW
set_option exponentiation.threshold 20000
/-! Core 114: the program's rows, told in rationals. -/
namespace GW
open PySem
def subQ (x y : List Rat) : List Rat := (x.zip y).map fun p => p.1 - p.2
def Rb (k : Nat) (x : List Rat) : Prop := Bdd k (joinQ x).1 (joinQ x).2
theorem Rb.up {k m : Nat} {x : List Rat} (h : Rb k x) (hm : k ≤ m) : Rb m x := Bdd.up h hm
theorem Rb.rs {k : Nat} {x : List Rat} (h : Rb k x) (i : Nat) : Rs k (qn x i) := by
  have b0 := (joinB_all x).1
  by_cases hi : i < x.length
  · refine Rs.of (show (joinQ x).2 ≠ 0 by show joinB x ≠ 0; omega) (join_nth x i).symm (h.ns _ (nth_mem (by rw [join_len]; exact hi))) h.b
  · rw [qn_ge (by omega)]
    have := h.b
    cases k with
    | zero =>
      have : (joinB x).natAbs < 1 := this
      omega
    | succ k => exact Rs.zero k
def Ov (D : Nat) (B : Nat) (q : Rat) : Prop := ∃ y : Int, q * ((D : Int) : Rat) = y ∧ y.natAbs ≤ B
theorem Ov.rs {D B k : Nat} {q : Rat} (h : Ov D B q) (D0 : 0 < D) (hD : D < 2 ^ k) (hB : B < 2 ^ k) : Rs k q := by
  obtain ⟨y, e, hy⟩ := h
  exact Rs.of (b := (D : Int)) (by omega) e (by omega) (by simpa using hD)
theorem Ov.add {D B B' : Nat} {p q : Rat} (h : Ov D B p) (h' : Ov D B' q) : Ov D (B + B') (p + q) := by
  obtain ⟨y, e, hy⟩ := h
  obtain ⟨z, f, hz⟩ := h'
  exact ⟨y + z, by rw [Rat.intCast_add]; grind, by omega⟩
theorem Ov.sub {D B B' : Nat} {p q : Rat} (h : Ov D B p) (h' : Ov D B' q) : Ov D (B + B') (p - q) := by
  obtain ⟨y, e, hy⟩ := h
  obtain ⟨z, f, hz⟩ := h'
  exact ⟨y - z, by rw [Rat.intCast_sub]; grind, by omega⟩
theorem Ov.mul {D D' B B' : Nat} {p q : Rat} (h : Ov D B p) (h' : Ov D' B' q) : Ov (D * D') (B * B') (p * q) := by
  obtain ⟨y, e, hy⟩ := h
  obtain ⟨z, f, hz⟩ := h'
  refine ⟨y * z, ?_, by rw [Int.natAbs_mul]; exact Nat.mul_le_mul hy hz⟩
  rw [Rat.intCast_mul, Int.natCast_mul, Rat.intCast_mul]
  grind
theorem Ov.zero (D B : Nat) : Ov D B 0 := ⟨0, by simp, by simp⟩
theorem Ov.up {D B B' : Nat} {q : Rat} (h : Ov D B q) (hB : B ≤ B') : Ov D B' q := let ⟨y, e, hy⟩ := h; ⟨y, e, by omega⟩
theorem Ov.wide {D B : Nat} {q : Rat} (h : Ov D B q) (c : Nat) : Ov (D * c) (B * c) q := by
  obtain ⟨y, e, hy⟩ := h
  refine ⟨y * c, ?_, by rw [Int.natAbs_mul, Int.natAbs_natCast]; exact Nat.mul_le_mul_right _ hy⟩
  rw [Rat.intCast_mul, Int.natCast_mul, Rat.intCast_mul]
  grind
theorem Ov.rb {D B k : Nat} {x : List Rat} (h : ∀ q ∈ x, Ov D B q) (D0 : 0 < D) (hD : D < 2 ^ k) (hB : B < 2 ^ k) : Rb k x := join_bd (D := (D : Int)) (by omega) (by simpa using hD) fun q hq => by
  obtain ⟨y, e, hy⟩ := h q hq
  exact ⟨y, e, by omega⟩
/-! contracts -/
section
variable {P : Pg} {fu d : Nat}
end
end GW
set_option exponentiation.threshold 20000
/-! Core 115: the price of a row. -/
namespace GW
open PySem
abbrev QStep := Rat × List Rat
def qstepV (p : QStep) : Val := .tup [rV p.1, rowR p.2]
structure QSt (n : Nat) (p : QStep) (q : Nat) : Prop where
  r0 : p.1 ≠ 0
  len : p.2.length = n
  qn' : q < n
  ahd : ∀ i, i < q → qn p.2 i = 0
  one : qn p.2 q = 1
  rs : Rs 1000 p.1
  rb : Rb 1000 p.2
def poff (a : Rat × List Rat) (p : QStep × Nat) : Rat × List Rat := (a.1 + qn a.2 p.2 * qn a.2 p.2 / p.1.1, subQ a.2 (mulQs (qn a.2 p.2) p.1.2))
def poffs (x : List Rat) (ps : List (QStep × Nat)) : Rat × List Rat := ps.foldl poff (0, x)
def isNil (x : List Rat) : Bool := x.all fun q => decide (q = 0)
def priceV (x : List Rat) (ps : List (QStep × Nat)) : Val := if isNil (poffs x ps).2 = true then rV (poffs x ps).1 else .non
def POk (x : List Rat) (ps : List (QStep × Nat)) : Prop := ∀ j, j ≤ ps.length → Rs 900 (poffs x (ps.take j)).1 ∧ Rb 900 (poffs x (ps.take j)).2
section
variable {P : Pg} {fu d : Nat}
end
end GW
set_option exponentiation.threshold 20000
/-! Core 116: the price of a row by a spread. -/
namespace GW
open PySem
structure cPriceOf (kn kr kf : Nat) (f : List Val → Store → Res Val) : Prop where
  good : ∀ (S : Store) (rs : List (List Int)) (b : Int) (n : Nat) (x : List Rat) (ps : List (QStep × Nat)) (Q : Val → Store → Prop) (X : Xt), Spr rs b n → (stg rs b n).st.map stepV = ps.map (fun p => qstepV p.1) → (∀ p ∈ ps, QSt n p.1 p.2) → ps.length ≤ 12 → x.length = n → Rb 4000 x → POk x ps → (∀ T, Keep S T → Q (priceV x ps) T) → W (f [tabV rs b, rowR x] S) Q X
  bad : ∀ (S : Store) (v w : Val), Okv S v → BadT v .non → f [v, w] S = .exc kn [.non, v] S
  tel : ∀ (S : Store) (rs : List (List Int)) (b : Int) (n k : Nat) (w : Val) (Q : Val → Store → Prop) (X : Xt), Tel rs b n → (stg rs b n).sp = some k → (∀ T, Keep S T → X kn [rowP (dirS rs b n k), tabV rs b] T) → W (f [tabV rs b, w] S) Q X
  norow : ∀ (S : Store) (rs : List (List Int)) (b : Int) (n : Nat) (v : Val) (Q : Val → Store → Prop) (X : Xt), Spr rs b n → (∀ T, Keep S T → Okv T v) → isRow v = false → (∀ T, Keep S T → X kr [v] T) → W (f [tabV rs b, v] S) Q X
  nofit : ∀ (S : Store) (rs : List (List Int)) (b : Int) (n : Nat) (ns : List Int) (c : Int) (Q : Val → Store → Prop) (X : Xt), Spr rs b n → IsRow ns c → Bdd 4000 ns c → ns.length ≠ n → (∀ T, Keep S T → X kf [.tup [tabV rs b, rowV ns c]] T) → W (f [tabV rs b, rowV ns c] S) Q X
section
variable {P : Pg} {fu d : Nat}
end
end GW
set_option exponentiation.threshold 20000
/-! Core 117: laws' rows and tables of rationals. -/
namespace GW
open PySem
section
variable {P : Pg} {fu d : Nat}
end
end GW
set_option exponentiation.threshold 20000
/-! Core 118: purses whose draws are counted. -/
namespace GW
open PySem
def PurseN (B : Int → Prop) (S : Store) (l k : Nat) : Prop := ∃ a b c : Int, S[l]? = some (.lst [.int a, .int b, .int c]) ∧ B b ∧ 0 ≤ c ∧ c + k ≤ 1152921504606846976
def Kp (l : Nat) (S T : Store) : Prop := ∀ (m : Nat) o, m ≠ l → S[m]? = some o → T[m]? = some o
section
variable {B : Int → Prop} {S T U : Store} {l k m : Nat}
theorem Kp.refl (l : Nat) (S : Store) : Kp l S S := fun _ _ _ e => e
theorem Kp.trans (h : Kp l S T) (h' : Kp l T U) : Kp l S U := fun m o n e => h' m o n (h m o n e)
theorem Keep.kp (h : Keep S T) : Kp l S T := fun m o _ e => h m o e
theorem Kp.app (l : Nat) (S V : Store) : Kp l S (S ++ V) := fun _ _ _ e => at_app e V
theorem PurseN.le (h : PurseN B S l k) (hm : m ≤ k) : PurseN B S l m := let ⟨a, b, c, e, h1, h2, h3⟩ := h; ⟨a, b, c, e, h1, h2, by omega⟩
theorem PurseN.keep (h : PurseN B S l k) (hk : Keep S T) : PurseN B T l k := let ⟨a, b, c, e, h1⟩ := h; ⟨a, b, c, hk _ _ e, h1⟩
theorem PurseN.app (h : PurseN B S l k) (V : Store) : PurseN B (S ++ V) l k := h.keep (Keep.app S V)
theorem PurseN.lt (h : PurseN B S l k) : l < S.length := by obtain ⟨a, b, c, e, _⟩ := h; exact (List.getElem?_eq_some_iff.mp e).1
theorem PurseN.set (h : PurseN B S l k) {r : Nat} {o : Ob} (hr : r ≠ l) : PurseN B (S.set r o) l k := let ⟨a, b, c, e, h1⟩ := h; ⟨a, b, c, by rw [List.getElem?_set_ne hr]; exact e, h1⟩
theorem PurseN.ne (h : PurseN B S l k) {r : Nat} {o : Ob} (e : S[r]? = some o) (ho : ∀ a b c : Int, o ≠ .lst [.int a, .int b, .int c]) : r ≠ l := fun z => by
  obtain ⟨a, b, c, e', _⟩ := h
  rw [z, e'] at e
  exact ho a b c (Option.some.inj e).symm
theorem Okv.kp {v : Val} (h : Okv S v) (p : Kp l S T) (q : PurseN B T l k) : Okv T v := h.mono fun m o e => by
  by_cases hm : m = l
  · subst hm
    obtain ⟨a, b, c, e', _⟩ := q
    exact ⟨_, e'⟩
  · exact ⟨o, p m o hm e⟩
end
section
variable {P : Pg} {fu d : Nat}
end
end GW
set_option exponentiation.threshold 20000
/-! Core 119: laws' drawn ratios, steps and rows that they reach. -/
namespace GW
open PySem
/-! drawn ratios -/
section
variable {P : Pg} {fu d : Nat} {B : Int → Prop}
end
end GW
set_option exponentiation.threshold 20000
/-! Core 120: laws' drawn steps. -/
namespace GW
open PySem
abbrev LW := Nat × Rat × List Rat
structure LOk (n : Nat) (w : LW) : Prop where
  pl : w.1 < n
  len : w.2.2.length = n
  ahd : ∀ i, i < w.1 → qn w.2.2 i = 0
  one : qn w.2.2 w.1 = 1
  ov : ∀ q ∈ w.2.2, Ov 12 36 q
  by' : ∃ t : Int, w.2.1 * ((6 : Int) : Rat) = t ∧ 0 < t ∧ t ≤ 600
def LOks (n m : Nat) (ws : List LW) : Prop := (∀ w ∈ ws, LOk n w) ∧ ws.Pairwise (fun a b => a.1 < b.1) ∧ ∀ w ∈ ws, w.1 < m
theorem by_ov {w : LW} {n : Nat} (h : LOk n w) : Ov 6 600 w.2.1 := by
  obtain ⟨t, e, h0, h1⟩ := h.by'
  exact ⟨t, e, by omega⟩
theorem pw_len {n : Nat} : ∀ {ws : List LW}, ws.Pairwise (fun a b => a.1 < b.1) → (∀ w ∈ ws, w.1 < n) → ws.length ≤ n := by
  intro ws h hn
  have h1 : (ws.map (·.1)).Pairwise (· < ·) := List.pairwise_map.mpr h
  have h2 := nd_len (U := ws.map (·.1)) (V := List.range n) (ps_nodup h1) fun i hi => by
    obtain ⟨w, hw, rfl⟩ := List.mem_map.mp hi
    exact List.mem_range.mpr (hn w hw)
  simpa using h2
theorem LOks.few {n m : Nat} {ws : List LW} (h : LOks n m ws) : ws.length ≤ m := pw_len h.2.1 h.2.2
section
variable {P : Pg} {fu d : Nat} {B : Int → Prop}
end
end GW
set_option exponentiation.threshold 20000
/-! Core 121: rows that drawn steps reach, their price; told steps are drawn steps. -/
namespace GW
open PySem
abbrev LZ := LW × Rat
def ZOk (ws : List LW) (zs : List LZ) : Prop := zs.map (·.1) = ws ∧ ∀ z ∈ zs, Ov 12 108 z.2
theorem LOk.pos {n : Nat} {w : LW} (h : LOk n w) : w.2.1 ≠ 0 := fun e => by
  obtain ⟨t, h1, h2, _⟩ := h.by'
  rw [e, Rat.zero_mul] at h1
  have : ((0 : Int) : Rat) = ((t : Int) : Rat) := h1
  rw [Rat.intCast_inj] at this
  omega
/-! reached -/
section
variable {P : Pg} {fu d : Nat} {B : Int → Prop}
end

/-! the price of a row that the steps reach, and of such with a number off -/
def pS (w : LW) : QStep × Nat := ((w.2.1, w.2.2), w.1)
theorem LOk.q {n : Nat} {w : LW} (h : LOk n w) : QSt n (pS w).1 (pS w).2 := ⟨h.pos, h.len, h.pl, h.ahd, h.one, (by_ov h).rs (by decide) (Nat.lt_of_lt_of_le (show 6 < 2 ^ 10 by decide) (Nat.pow_le_pow_right (by decide) (by decide))) (Nat.lt_of_lt_of_le (show 600 < 2 ^ 10 by decide) (Nat.pow_le_pow_right (by decide) (by decide))), Ov.rb h.ov (by decide) (Nat.lt_of_lt_of_le (show 12 < 2 ^ 10 by decide) (Nat.pow_le_pow_right (by decide) (by decide))) (Nat.lt_of_lt_of_le (show 36 < 2 ^ 10 by decide) (Nat.pow_le_pow_right (by decide) (by decide)))⟩
section
variable {n : Nat} {ws : List LW} {zs : List LZ}
theorem ZOk.ok (h : ZOk ws zs) (hw : LOks n n ws) : ∀ z ∈ zs, LOk n z.1 := fun z hz => hw.1 _ (by rw [← h.1]; exact List.mem_map.mpr ⟨z, hz, rfl⟩)
theorem ZOk.inc (h : ZOk ws zs) (hw : LOks n n ws) : zs.Pairwise (fun y z => y.1.1 < z.1.1) := by
  have := hw.2.1
  rw [← h.1, List.pairwise_map] at this
  exact this
theorem ZOk.len (h : ZOk ws zs) : zs.length = ws.length := by rw [← h.1, List.length_map]
end
end GW
set_option exponentiation.threshold 20000
/-! Core 122: told steps are drawn steps. -/
namespace GW
open PySem
noncomputable def num12 (q : Rat) : Int := open Classical in if h : ∃ y : Int, q * ((12 : Int) : Rat) = y then h.choose else 0
theorem num12_is {q : Rat} {b : Nat} (h : Ov 12 b q) : q * ((12 : Int) : Rat) = (num12 q : Int) ∧ (num12 q).natAbs ≤ b := by
  obtain ⟨y, e, hy⟩ := h
  have ex : ∃ y : Int, q * ((12 : Int) : Rat) = y := ⟨y, e⟩
  have hc : q * ((12 : Int) : Rat) = (num12 q : Int) := by
    unfold num12
    rw [dif_pos ex]
    exact ex.choose_spec
  refine ⟨hc, ?_⟩
  have : (y : Rat) = (num12 q : Int) := by rw [← hc]; exact e.symm
  rw [Rat.intCast_inj] at this
  rw [← this]; exact hy
noncomputable def num6 (q : Rat) : Int := open Classical in if h : ∃ y : Int, q * ((6 : Int) : Rat) = y then h.choose else 0
theorem num6_is {q : Rat} {t : Int} (e : q * ((6 : Int) : Rat) = t) : num6 q = t := by
  have ex : ∃ y : Int, q * ((6 : Int) : Rat) = y := ⟨t, e⟩
  have hc : q * ((6 : Int) : Rat) = (num6 q : Int) := by
    unfold num6
    rw [dif_pos ex]
    exact ex.choose_spec
  rw [e, Rat.intCast_inj] at hc
  exact hc.symm
noncomputable def dsW (w : LW) : Ds := (num6 w.2.1, w.2.2.map num12, w.1)
section
variable {n : Nat} {ws : List LW}
theorem nth12 {x : List Rat} (h : ∀ q ∈ x, Ov 12 36 q) (i : Nat) : (nth (x.map num12) i : Rat) = qn x i * ((12 : Int) : Rat) ∧ (nth (x.map num12) i).natAbs ≤ 36 := by
  by_cases hi : i < x.length
  · have e : nth (x.map num12) i = num12 (qn x i) := by
      unfold nth
      rw [List.getD_eq_getElem?_getD, List.getElem?_map, qn_get hi]; rfl
    obtain ⟨h1, h2⟩ := num12_is (h _ (qn_mem hi))
    rw [e]
    exact ⟨h1.symm, h2⟩
  · rw [nth_ge (by simpa using hi), qn_ge (by omega)]
    exact ⟨by rw [Rat.zero_mul]; rfl, by decide⟩
theorem LOk.ds {w : LW} (h : LOk n w) : DOk n 12 (dsW w) := by
  obtain ⟨t, e, t0, _⟩ := h.by'
  have c : ∀ i (z : Int), qn w.2.2 i * ((12 : Int) : Rat) = (z : Rat) → nth (w.2.2.map num12) i = z := fun i z hz => by
    have := (nth12 h.ov i).1
    rw [hz, Rat.intCast_inj] at this
    exact this
  refine ⟨?_, by show (w.2.2.map num12).length = n; rw [List.length_map]; exact h.len, h.pl, c _ _ ?_, fun i hi => c _ _ ?_⟩
  · show 1 ≤ num6 w.2.1
    rw [num6_is e]; omega
  · show qn w.2.2 w.1 * ((12 : Int) : Rat) = _
    rw [h.one, Rat.one_mul]
  · rw [h.ahd i hi, Rat.zero_mul]; rfl
theorem LOks.ds (h : LOks n n ws) : DsOk n 6 12 (ws.map dsW) := ⟨by decide, by decide, fun s hs => by
  obtain ⟨w, hw, rfl⟩ := List.mem_map.mp hs
  exact (h.1 w hw).ds, List.pairwise_map.mpr h.2.1⟩
theorem LOks.lt (h : LOks n n ws) : DsLt 10 6 12 (ws.map dsW) := ⟨fun s hs => by
  obtain ⟨w, hw, rfl⟩ := List.mem_map.mp hs
  obtain ⟨t, e, t0, t1⟩ := (h.1 w hw).by'
  refine ⟨?_, fun i => ?_⟩
  · show (num6 w.2.1).natAbs < 2 ^ 10
    rw [num6_is e]; omega
  · exact Nat.lt_of_le_of_lt (nth12 (h.1 w hw).ov i).2 (by decide), by decide, by decide⟩
theorem LOk.step {w : LW} (h : LOk n w) (n12 : n ≤ 12) : stepV (stepOf 6 12 (dsW w)) = qstepV (pS w).1 := by
  obtain ⟨t, e, t0, _⟩ := h.by'
  have r := rowOf_is (y := w.2.2.map num12) (D := 12) (by decide) (by rw [List.length_map, h.len]; have := h.pl; omega) (by rw [List.length_map, h.len]; exact n12)
  have j : joinQ w.2.2 = ((rowOf (w.2.2.map num12) 12).1, (rowOf (w.2.2.map num12) 12).2) := row_is r.row (by rw [r.len, List.length_map]) fun i _ => by
    have e1 := (nth12 h.ov i).1
    have e2 := r.eq i
    have e3 : ((nth (rowOf (w.2.2.map num12) 12).1 i * 12 : Int) : Rat) = ((nth (w.2.2.map num12) i * (rowOf (w.2.2.map num12) 12).2 : Int) : Rat) := by rw [e2]
    rw [Rat.intCast_mul, Rat.intCast_mul, e1] at e3
    have z : ((12 : Int) : Rat) ≠ 0 := icast0 (by decide)
    grind
  show Val.tup [ratV (lowP (num6 w.2.1) 6), rowP (rowOf (w.2.2.map num12) 12)] = .tup [rV w.2.1, rowR w.2.2]
  rw [num6_is e, lowP_q (by decide) e]
  have : rowP (rowOf (w.2.2.map num12) 12) = rowR w.2.2 := by
    unfold rowR
    rw [j]
  rw [this]; rfl
end
end GW
set_option exponentiation.threshold 20000
/-! Core 123: a told direction is one. -/
namespace GW
open PySem
end GW
set_option exponentiation.threshold 20000
/-! Core 124: what is nowhere below nought is a spread; asked tables of few rows; the value on a row. -/
namespace GW
open PySem
section
variable {rs : List (List Int)} {b : Int} {n K : Nat}
theorem mir_of (t : IsTab rs b n) (hl : rs.length = n) (hs : ∀ i, i < n → ∀ j, j < n → matOf rs i j = matOf rs j i) : colsL rs n = rs := by
  refine tab_ext (w := n) (by rw [cols_len]; omega) (fun c hc => by rw [cols_row hc, hl]) t.wd fun k hk i hi => ?_
  rw [cols_len] at hk
  rw [cols_mat hk]
  exact hs i hi k hk
theorem psd_spr (hK : (K + 4) * n + 2 * K + 9 ≤ 2000) (t : IsTab rs b n) (hl : rs.length = n) (hs : ∀ i, i < n → ∀ j, j < n → matOf rs i j = matOf rs j i) (hk : Bdd K rs.flatten b) (ps : Psd n (matOf rs)) : Spr rs b n := by
  refine ⟨t, hl, mir_of t hl hs, stb_of hK t hl hs hk, ?_⟩
  cases hsp : (stg rs b n).sp with
  | none => rfl
  | some k =>
    have := (dir_neg hK t hl hs hk hsp).1
    have := ps (nth (dirY (stg rs b n).st (fwY (stg rs b n).tb (stg rs b n).bt k n)).1)
    omega
end
/-! the value on a row -/
theorem dot_appl {rs : List (List Int)} {n : Nat} (hl : rs.length = n) (hw : ∀ r ∈ rs, r.length = n) {x y : List Int} (xl : x.length = n) (yl : y.length = n) : dotI y (applI rs x) = bil n (matOf rs) (nth y) (nth x) := by
  rw [dotI_sum (by simp [applI, hl, yl]), yl]
  unfold bil cmb
  have e : ∀ i, i < n → nth y i * nth (applI rs x) i = sumN n fun j => nth y i * matOf rs i j * nth x j := fun i hi => by
    have hr := hw _ (getD_mem (show i < rs.length by omega))
    rw [dot_row hw (by omega) xl, ← sumN_mul]
    exact sumN_congr fun j hj => by rw [Int.mul_assoc]
  rw [sumN_congr e, sumN_swap]
  exact sumN_congr fun j hj => by rw [sumN_mul']
section
variable {P : Pg} {fu d : Nat}
end
end GW
set_option exponentiation.threshold 20000
/-! Core 125: spreads by sums; which is as wide; turned round. -/
namespace GW
open PySem
structure Sd (F : List (List Int)) (c : Int) (n k m : Nat) : Prop where
  t : IsTab F c n
  ln : F.length = n
  hs : ∀ i, i < n → ∀ j, j < n → matOf F i j = matOf F j i
  eb : ∀ i, i < n → ∀ j, j < n → (matOf F i j).natAbs < 2 ^ k
  cb : c.natAbs < 2 ^ m
  ps : Psd n (matOf F)
theorem Sd.up {F : List (List Int)} {c : Int} {n k m k' m' : Nat} (h : Sd F c n k m) (hk : k ≤ k') (hm : m ≤ m') : Sd F c n k' m' := ⟨h.t, h.ln, h.hs, fun i hi j hj => pow_up (h.eb i hi j hj) hk, pow_up h.cb hm, h.ps⟩
theorem Sd.bd {F : List (List Int)} {c : Int} {n k m K : Nat} (h : Sd F c n k m) (hk : k ≤ K) (hm : m ≤ K) : Bdd K F.flatten c := ⟨fun x hx => by
  obtain ⟨r, hr, hx⟩ := List.mem_flatten.mp hx
  obtain ⟨i, hi⟩ := List.mem_iff_getElem?.mp hr
  obtain ⟨j, hj, rfl⟩ := mem_nth hx
  have hin := (List.getElem?_eq_some_iff.mp hi).1
  have hjn : j < n := by rw [← h.t.wd r hr]; exact hj
  rw [← mat_of_get hi]
  exact pow_up (h.eb i (by rw [← h.ln]; exact hin) j hjn) hk, pow_up h.cb hm⟩
theorem Sd.spr {F : List (List Int)} {c : Int} {n k m : Nat} (h : Sd F c n k m) (K : Nat) (hk : k ≤ K) (hm : m ≤ K) (hK : (K + 4) * n + 2 * K + 9 ≤ 2000) : Spr F c n := psd_spr hK h.t h.ln h.hs (h.bd hk hm) h.ps
/-! which is as wide -/
def LeW (A : List (List Int)) (a : Int) (B : List (List Int)) (e : Int) (n : Nat) : Prop := Psd n fun i j => matOf B i j * a - matOf A i j * e
theorem bil_minus {n : Nat} (A B : Mt) (x y : Nat → Int) : bil n (fun i j => A i j - B i j) x y = bil n A x y - bil n B x y := by
  have h := bil_plus (n := n) A (fun i j => B i j * (-1)) x y
  rw [bil_scale] at h
  have : bil n (fun i j => A i j - B i j) x y = bil n (fun i j => A i j + B i j * (-1)) x y := bil_congr (fun i _ j _ => by omega) x y
  rw [this, h]; omega
theorem le_iff {A B : List (List Int)} {a e : Int} {n : Nat} : LeW A a B e n ↔ ∀ x, bil n (matOf A) x x * e ≤ bil n (matOf B) x x * a := by
  unfold LeW Psd
  refine forall_congr' fun x => ?_
  rw [bil_minus (fun i j => matOf B i j * a) (fun i j => matOf A i j * e), bil_scale, bil_scale]
  omega
theorem LeW.trans {A B C : List (List Int)} {a b c : Int} {n : Nat} (a0 : 0 < a) (b0 : 0 < b) (c0 : 0 < c) (h : LeW A a B b n) (h' : LeW B b C c n) : LeW A a C c n := le_iff.mpr fun x => by
  have h1 := Int.mul_le_mul_of_nonneg_right (le_iff.mp h x) (Int.le_of_lt c0)
  have h2 := Int.mul_le_mul_of_nonneg_right (le_iff.mp h' x) (Int.le_of_lt a0)
  refine Int.le_of_mul_le_mul_right (a := b) ?_ b0
  rw [Int.mul_right_comm, Int.mul_right_comm _ a b]
  refine Int.le_trans h1 ?_
  rw [Int.mul_right_comm _ a c]
  exact h2
end GW
set_option exponentiation.threshold 20000
/-! Core 126: spreads turned round. -/
namespace GW
open PySem
section
variable {F A : List (List Int)} {c Z : Int} {n k m : Nat}
theorem Turned.frc (hl : F.length = n) (T : Turned F c n A Z) : Frc A Z n (fun k i => c * cof n (matOf F) i k) (GW.det n (matOf F)) := ⟨T.tab, T.len, fun i hi j hj => by rw [T.adj hi hj]; simp only [Int.mul_assoc, Int.mul_comm, Int.mul_left_comm]⟩
theorem Turned.sym (h : Sd F c n k m) (T : Turned F c n A Z) : ∀ i, i < n → ∀ j, j < n → matOf A i j = matOf A j i := by
  have c0 := h.t.pos
  have T' := T.flip h.t.wd h.ln
  rw [mir_of h.t h.ln h.hs] at T'
  have e := (T.uniq (show c ≠ 0 by omega) T').1
  intro i hi j hj
  have : matOf (colsL A n) j i = matOf A i j := cols_mat hj
  rw [← e] at this
  exact this.symm
theorem Turned.psd (h : Sd F c n k m) (T : Turned F c n A Z) : Psd n (matOf A) := fun x => by
  have c0 := h.t.pos
  have z0 := T.tab.pos
  have sy := T.sym h
  obtain ⟨y, hy⟩ : ∃ y : Nat → Int, y = fun j => sumN n fun l => matOf A j l * x l := ⟨_, rfl⟩
  have e1 : ∀ j, j < n → cmb n (matOf F) y j = c * Z * x j := fun j hj => by
    have : cmb n (matOf F) y j = sumN n fun l => (sumN n fun i => matOf F j i * matOf A i l) * x l := by
      unfold cmb
      rw [hy]
      rw [sumN_congr (g := fun i => sumN n fun l => matOf F j i * matOf A i l * x l) fun i hi => by
        rw [Int.mul_comm, ← sumN_mul, h.hs i hi j hj]
        exact sumN_congr fun l _ => by rw [Int.mul_assoc], sumN_swap]
      exact sumN_congr fun l _ => by rw [sumN_mul']
    rw [this, sumN_congr (g := fun l => (if j = l then c * Z else 0) * x l) fun l hl => by rw [T.right j hj l hl], sum_delta' hj]
  have e2 : ∀ j, j < n → cmb n (matOf A) x j = y j := fun j hj => by
    rw [hy]
    exact sumN_congr fun i hi => by rw [Int.mul_comm, sy i hi j hj]
  have b1 : bil n (matOf F) y y = c * Z * bil n (matOf A) x x := by
    unfold bil
    rw [← sumN_mul]
    refine sumN_congr fun j hj => ?_
    rw [e1 j hj, e2 j hj]
    simp only [Int.mul_assoc, Int.mul_comm, Int.mul_left_comm]
  have p := h.ps y
  rw [b1] at p
  have cz := Int.mul_pos c0 z0
  refine Classical.byContradiction fun hn => ?_
  have := Int.mul_neg_of_pos_of_neg cz (show bil n (matOf A) x x < 0 by omega)
  omega
theorem Turned.sd (h : Sd F c n k m) (T : Turned F c n A Z) : Sd A Z n (m + (k + 4) * n + 1) ((k + 4) * n + 1) := by
  have c0 := h.t.pos
  have n12 := h.t.whi
  have D0 := T.det (show c ≠ 0 by omega)
  have f := T.frc h.ln
  have hB : 1 ≤ 2 ^ k := Nat.one_le_two_pow
  have dl := dbd_le (k := k) n (by omega)
  have le : ∀ i, i < n → ∀ j, j < n → (matOf F i j).natAbs ≤ 2 ^ k := fun i hi j hj => Nat.le_of_lt (h.eb i hi j hj)
  have p : (2 : Nat) ^ ((k + 4) * n) < 2 ^ ((k + 4) * n + 1) := Nat.pow_lt_pow_right (by decide) (by omega)
  refine ⟨T.tab, T.len, T.sym h, fun i hi j hj => ?_, ?_, T.psd h⟩
  · refine Nat.lt_of_le_of_lt (f.fle D0 hi hj) ?_
    have := mul_lt h.cb (Nat.lt_of_le_of_lt (Nat.le_trans (cof_bd hB le j i) dl) p)
    exact pow_up this (by omega)
  · exact Nat.lt_of_le_of_lt (f.cle D0) (Nat.lt_of_le_of_lt (Nat.le_trans (det_bd le) dl) p)
theorem Turned.value (h : Sd F c n k m) (T : Turned F c n A Z) {ns : List Int} {b : Int} (r : IsRow ns b) (nl : ns.length = n) (nz : ¬ ∀ k ∈ ns, k = 0) (sv : SolvS F c ns b n) : 0 < (shareP F c ns b n).1 ∧ lowP (bil n (matOf A) (nth ns) (nth ns)) (Z * b * b) = ((shareP F c ns b n).2, (shareP F c ns b n).1) := by
  have c0 := h.t.pos
  have z0 := T.tab.pos
  have b0 := r.pos
  rcases share_is h.t h.ln h.hs h.ps r nl nz sv with ⟨l, q, _⟩ | ⟨x, z, _, s, dp, e⟩
  · exact (T.nosol (show c ≠ 0 by omega) h.ln q).elim
  · have zp := s.row.pos
    have zb : 0 < z * b := Int.mul_pos zp b0
    have ts := T.sol (show c ≠ 0 by omega) h.ln nl s
    have ed : Z * b * dotI x ns = bil n (matOf A) (nth ns) (nth ns) * z := by
      rw [dotI_sum (by rw [s.len, nl]), s.len, ← sumN_mul]
      have : bil n (matOf A) (nth ns) (nth ns) = sumN n fun i => nth (applI A ns) i * nth ns i := by
        rw [← dot_appl T.len T.tab.wd nl nl, dotI_sum (by simp [applI, T.len, nl]), nl]
        exact sumN_congr fun i _ => Int.mul_comm _ _
      rw [this, ← sumN_mul']
      refine sumN_congr fun i hi => ?_
      have := ts i hi
      rw [show Z * b * (nth x i * nth ns i) = Z * nth x i * b * nth ns i by simp only [Int.mul_assoc, Int.mul_comm, Int.mul_left_comm], this, Int.mul_right_comm]
    obtain ⟨q, hq⟩ : ∃ q : Rat, q = (dotI x ns : Rat) / ((z * b : Int) : Rat) := ⟨_, rfl⟩
    have y0 := icast0 (show z * b ≠ 0 by omega)
    have f1 : q * ((z * b : Int) : Rat) = (dotI x ns : Rat) := by rw [hq]; grind
    have f2 : q * ((Z * b * b : Int) : Rat) = (bil n (matOf A) (nth ns) (nth ns) : Rat) := by
      have y1 := icast0 (show z ≠ 0 by omega)
      have ed' : ((Z * b * dotI x ns : Int) : Rat) = ((bil n (matOf A) (nth ns) (nth ns) * z : Int) : Rat) := by rw [ed]
      rw [Rat.intCast_mul, Rat.intCast_mul, Rat.intCast_mul, ← f1, Rat.intCast_mul] at ed'
      rw [Rat.intCast_mul, Rat.intCast_mul]
      grind
    have g1 := lowP_q (show z * b ≠ 0 by omega) f1
    have g2 := lowP_q (show Z * b * b ≠ 0 from Int.mul_ne_zero (Int.mul_ne_zero (by omega) (by omega)) (by omega)) f2
    obtain ⟨r1, r2⟩ := lowP_is (z * b) (b := dotI x ns) (by omega)
    have p1 : 0 < (lowP (z * b) (dotI x ns)).1 := by
      have := r1.pos
      have h2 := Int.mul_pos zb this
      refine Classical.byContradiction fun hn => ?_
      have := Int.mul_nonpos_of_nonpos_of_nonneg (show (lowP (z * b) (dotI x ns)).1 ≤ 0 by omega) (Int.le_of_lt dp)
      omega
    have sl := share_low (dt := z * b) (zc := dotI x ns) zb dp
    have rr : IsR (lowP (z * b) (dotI x ns)).2 (lowP (z * b) (dotI x ns)).1 := ⟨p1, by have := r1.low; rw [Int.gcd_comm]; exact this⟩
    rw [e]
    refine ⟨p1, ?_⟩
    rw [g2, ← g1, ← sl]
    have := rP_of rr (q := ((lowP (z * b) (dotI x ns)).2 : Rat) / ((lowP (z * b) (dotI x ns)).1 : Rat)) (by have := icast0 (show (lowP (z * b) (dotI x ns)).1 ≠ 0 by omega); grind)
    rw [this]
    exact lowP_q (by omega) (by have := icast0 (show (lowP (z * b) (dotI x ns)).1 ≠ 0 by omega); grind)
end
end GW
set_option exponentiation.threshold 20000
/-! Core 127: steps drawn otherwise, sums of tables, the value by steps. -/
namespace GW
open PySem
section
variable {P : Pg} {fu d : Nat}
end
end GW
set_option exponentiation.threshold 20000
/-! Core 128: small numbers; tables so many times, put together; the value by steps. -/
namespace GW
open PySem
section
variable {P : Pg} {fu d : Nat}
end
end GW
set_option exponentiation.threshold 20000
/-! Core 129: the value by steps. -/
namespace GW
open PySem
section
variable {P : Pg} {fu d : Nat}
end
end GW
set_option exponentiation.threshold 20000
/-! Core 130: rows and tables of the program, in rationals. -/
namespace GW
open PySem
def RbT (k : Nat) (M : List (List Rat)) : Prop := Bdd k (joinT M).1.flatten (joinT M).2
theorem RbT.up {k m : Nat} {M : List (List Rat)} (h : RbT k M) (hm : k ≤ m) : RbT m M := Bdd.up h hm
structure Mx (M : List (List Rat)) (r w : Nat) : Prop where
  len : M.length = r
  wd : ∀ x ∈ M, x.length = w
  r1 : 1 ≤ r
  r12 : r ≤ 12
  w1 : 1 ≤ w
  w12 : w ≤ 12
theorem Mx.tab {M : List (List Rat)} {r w : Nat} (h : Mx M r w) : IsTab (joinT M).1 (joinT M).2 w := joinT_tab (by rw [h.len]; exact h.r1) (by rw [h.len]; exact h.r12) h.w1 h.w12 h.wd
theorem tn_row {M : List (List Rat)} {i : Nat} (h : i < M.length) : M[i]? = some (M.getD i []) := by
  rw [List.getD_eq_getElem?_getD, List.getElem?_eq_getElem h]; rfl
def subT (M N : List (List Rat)) : List (List Rat) := (M.zip N).map fun p => subQ p.1 p.2
theorem sumQ_cons (q : Rat) (x : List Rat) : sumQ (q :: x) = q + sumQ x := by
  have : ∀ (x : List Rat) (a : Rat), x.foldl (· + ·) a = a + x.foldl (· + ·) 0 := fun x => by
    induction x with
    | nil => intro a; simp; grind
    | cons y x ih =>
      intro a
      rw [List.foldl_cons, List.foldl_cons, ih (a + y), ih (0 + y)]
      grind
  unfold sumQ
  rw [List.foldl_cons, this x (0 + q)]
  grind
section
variable {P : Pg} {fu d : Nat}
theorem appQ_len (M : List (List Rat)) (x : List Rat) : (appQ M x).length = M.length := by simp [appQ]
theorem appQ_nth {M : List (List Rat)} {x : List Rat} {i : Nat} (hi : i < M.length) : qn (appQ M x) i = dotQ (M.getD i []) x := qn_of (by unfold appQ; rw [List.getElem?_map, tn_row hi]; rfl)
end
end GW
set_option exponentiation.threshold 20000
/-! Core 131: sums of ratios; tables turned round, in rationals. -/
namespace GW
open PySem
/-! sums -/
def rsum : Nat → (Nat → Rat) → Rat
  | 0, _ => 0
  | n + 1, f => rsum n f + f n
theorem rsum_congr {n : Nat} {f g : Nat → Rat} (h : ∀ i, i < n → f i = g i) : rsum n f = rsum n g := by
  induction n with
  | zero => rfl
  | succ n ih => simp only [rsum]; rw [ih fun i hi => h i (by omega), h n (by omega)]
theorem rsum_add {n : Nat} {f g : Nat → Rat} : rsum n (fun i => f i + g i) = rsum n f + rsum n g := by
  induction n with
  | zero => simp only [rsum]; grind
  | succ n ih => simp only [rsum]; rw [ih]; grind
theorem rsum_mul {n : Nat} {f : Nat → Rat} (c : Rat) : rsum n (fun i => c * f i) = c * rsum n f := by
  induction n with
  | zero => simp only [rsum]; grind
  | succ n ih => simp only [rsum]; rw [ih]; grind
theorem rsum_mul' {n : Nat} {f : Nat → Rat} (c : Rat) : rsum n (fun i => f i * c) = rsum n f * c := by
  induction n with
  | zero => simp only [rsum]; grind
  | succ n ih => simp only [rsum]; rw [ih]; grind
theorem rsum_zero {n : Nat} {f : Nat → Rat} (h : ∀ i, i < n → f i = 0) : rsum n f = 0 := by
  induction n with
  | zero => rfl
  | succ n ih => simp only [rsum]; rw [ih fun i hi => h i (by omega), h n (by omega)]; grind
theorem rsum_swap {n m : Nat} {f : Nat → Nat → Rat} : rsum n (fun i => rsum m fun j => f i j) = rsum m fun j => rsum n fun i => f i j := by
  induction n with
  | zero => exact (rsum_zero fun _ _ => rfl).symm
  | succ n ih => simp only [rsum]; rw [ih, ← rsum_add]
theorem rsum_delta {n i : Nat} (hi : i < n) (f : Nat → Rat) : rsum n (fun l => (if i = l then 1 else 0) * f l) = f i := by
  induction n with
  | zero => omega
  | succ n ih =>
    simp only [rsum]
    by_cases h : i = n
    · subst h
      rw [if_pos rfl, rsum_zero fun l hl => by rw [if_neg (by omega)]; grind]
      grind
    · rw [ih (by omega), if_neg h]; grind
theorem rsum_front (n : Nat) (f : Nat → Rat) : rsum (n + 1) f = f 0 + rsum n (fun i => f (i + 1)) := by
  induction n with
  | zero => simp only [rsum]; grind
  | succ n ih =>
    show rsum (n + 1) f + f (n + 1) = f 0 + (rsum n (fun i => f (i + 1)) + f (n + 1))
    rw [ih]; grind
theorem dotQ_sum : ∀ {x y : List Rat}, x.length = y.length → dotQ x y = rsum x.length fun i => qn x i * qn y i
  | [], [], _ => rfl
  | p :: x, q :: y, h => by
    have ih := dotQ_sum (x := x) (y := y) (by simpa using h)
    have d2 : dotQ (p :: x) (q :: y) = p * q + dotQ x y := by
      unfold dotQ
      rw [List.zip_cons_cons, List.map_cons, sumQ_cons]
    rw [d2, ih, List.length_cons, rsum_front]; rfl
  | [], _ :: _, h => by simp at h
  | _ :: _, [], h => by simp at h
theorem appQ_sum {M : List (List Rat)} {x : List Rat} {r w : Nat} (hM : Mx M r w) (xl : x.length = w) {i : Nat} (hi : i < r) : qn (appQ M x) i = rsum w fun j => tn M i j * qn x j := by
  have hi' : i < M.length := by rw [hM.len]; exact hi
  have rl := hM.wd _ (List.mem_of_getElem? (tn_row hi'))
  rw [appQ_nth hi', dotQ_sum (by rw [rl, xl]), rl]; rfl
structure Inv2 (M A : List (List Rat)) (n : Nat) : Prop where
  mx : Mx A n n
  right : ∀ i, i < n → ∀ l, l < n → rsum n (fun j => tn M i j * tn A j l) = if i = l then 1 else 0
  left : ∀ i, i < n → ∀ l, l < n → rsum n (fun j => tn A i j * tn M j l) = if i = l then 1 else 0
theorem Inv2.app {M A : List (List Rat)} {n : Nat} (hM : Mx M n n) (h : Inv2 M A n) {x : List Rat} (xl : x.length = n) : appQ M (appQ A x) = x := by
  have al : (appQ A x).length = n := by rw [appQ_len, h.mx.len]
  refine qn_ext (by rw [appQ_len, hM.len, xl]) fun i hi => ?_
  rw [appQ_len, hM.len] at hi
  rw [appQ_sum hM al hi, rsum_congr (g := fun j => rsum n fun l => tn M i j * tn A j l * qn x l) fun j hj => by
    rw [appQ_sum h.mx xl hj, ← rsum_mul]; exact rsum_congr fun l _ => by grind, rsum_swap,
    rsum_congr (g := fun l => (if i = l then 1 else 0) * qn x l) fun l hl => by rw [rsum_mul', h.right i hi l hl], rsum_delta hi]
end GW
set_option exponentiation.threshold 20000
/-! Core 132: bowls. -/
namespace GW
open PySem
structure cSprT (f : List Val → Store → Res Val) : Prop where
  tel : ∀ (S : Store) (rs : List (List Int)) (b : Int) (n k : Nat) (Q : Val → Store → Prop) (X : Xt), Tel rs b n → (stg rs b n).sp = some k → (∀ T, Keep S T → Q (.bl false) T) → W (f [tabV rs b] S) Q X
  bad : ∀ (S : Store) (v : Val), Okv S v → BadT v .non → f [v] S = .ok (.bl false) S
structure Bw (M : List (List Rat)) (x : List Rat) (r : Rat) (n : Nat) : Prop where
  mx : Mx M n n
  spr : Spr (joinT M).1 (joinT M).2 n
  xl : x.length = n
  xb : Rb 2000 x
  rs : Rs 2000 r
def bwV (M : List (List Rat)) (x : List Rat) (r : Rat) : Val := .tup [tabR M, rowR x, rV r]
structure cIsBowl (f : List Val → Store → Res Val) : Prop where
  good : ∀ (S : Store) (M : List (List Rat)) (x : List Rat) (r : Rat) (n : Nat) (Q : Val → Store → Prop) (X : Xt), Bw M x r n → (∀ T, Keep S T → Q (.bl true) T) → W (f [bwV M x r] S) Q X
  notup : ∀ (S : Store) (v : Val), isiE S v ["tuple"] = some false → f [v] S = .ok (.bl false) S
  len : ∀ (S : Store) (xs : List Val), xs.length ≠ 3 → f [.tup xs] S = .ok (.bl false) S
  bad : ∀ (S : Store) (v0 v1 v2 : Val), Okv S v0 → BadT v0 .non → f [.tup [v0, v1, v2]] S = .ok (.bl false) S
  tel : ∀ (S : Store) (rs : List (List Int)) (b : Int) (n k : Nat) (v1 v2 : Val) (Q : Val → Store → Prop) (X : Xt), Tel rs b n → (stg rs b n).sp = some k → (∀ T, Keep S T → Q (.bl false) T) → W (f [.tup [tabV rs b, v1, v2]] S) Q X
  norow : ∀ (S : Store) (rs : List (List Int)) (b : Int) (n : Nat) (v1 v2 : Val) (Q : Val → Store → Prop) (X : Xt), Spr rs b n → (∀ T, Keep S T → Okv T v1) → isRow v1 = false → (∀ T, Keep S T → Q (.bl false) T) → W (f [.tup [tabV rs b, v1, v2]] S) Q X
  nolen : ∀ (S : Store) (rs : List (List Int)) (b : Int) (n : Nat) (ns : List Int) (c : Int) (v2 : Val) (Q : Val → Store → Prop) (X : Xt), Spr rs b n → IsRow ns c → Bdd 9000 ns c → ns.length ≠ n → (∀ T, Keep S T → Q (.bl false) T) → W (f [.tup [tabV rs b, rowV ns c, v2]] S) Q X
  norat : ∀ (S : Store) (rs : List (List Int)) (b : Int) (n : Nat) (ns : List Int) (c : Int) (v2 : Val) (Q : Val → Store → Prop) (X : Xt), Spr rs b n → IsRow ns c → Bdd 9000 ns c → ns.length = n → (∀ T, Keep S T → Okv T v2) → isRat v2 = false → (∀ T, Keep S T → Q (.bl false) T) → W (f [.tup [tabV rs b, rowV ns c, v2]] S) Q X
inductive NBw (S : Store) : Val → Prop
  | notup (v : Val) : isiE S v ["tuple"] = some false → NBw S v
  | len (xs : List Val) : xs.length ≠ 3 → NBw S (.tup xs)
  | bad (v0 v1 v2 : Val) : Okv S v0 → BadT v0 .non → NBw S (.tup [v0, v1, v2])
  | tel (rs : List (List Int)) (b : Int) (n k : Nat) (v1 v2 : Val) : Tel rs b n → (stg rs b n).sp = some k → NBw S (.tup [tabV rs b, v1, v2])
  | norow (rs : List (List Int)) (b : Int) (n : Nat) (v1 v2 : Val) : Spr rs b n → (∀ T, Keep S T → Okv T v1) → isRow v1 = false → NBw S (.tup [tabV rs b, v1, v2])
  | nolen (rs : List (List Int)) (b : Int) (n : Nat) (ns : List Int) (c : Int) (v2 : Val) : Spr rs b n → IsRow ns c → Bdd 9000 ns c → ns.length ≠ n → NBw S (.tup [tabV rs b, rowV ns c, v2])
  | norat (rs : List (List Int)) (b : Int) (n : Nat) (ns : List Int) (c : Int) (v2 : Val) : Spr rs b n → IsRow ns c → Bdd 9000 ns c → ns.length = n → (∀ T, Keep S T → Okv T v2) → isRat v2 = false → NBw S (.tup [tabV rs b, rowV ns c, v2])
theorem cIsBowl.no {f : List Val → Store → Res Val} (h : cIsBowl f) {S : Store} {v : Val} (hv : NBw S v) {Q : Val → Store → Prop} {X : Xt} (hQ : ∀ T, Keep S T → Q (.bl false) T) : W (f [v] S) Q X := by
  cases hv with
  | notup _ e => exact W.of (h.notup S v e) (hQ S (Keep.refl S))
  | len xs e => exact W.of (h.len S xs e) (hQ S (Keep.refl S))
  | bad v0 v1 v2 o e => exact W.of (h.bad S v0 v1 v2 o e) (hQ S (Keep.refl S))
  | tel rs b n k v1 v2 t e => exact h.tel S rs b n k v1 v2 _ _ t e hQ
  | norow rs b n v1 v2 s o e => exact h.norow S rs b n v1 v2 _ _ s o e hQ
  | nolen rs b n ns c v2 s r kb e => exact h.nolen S rs b n ns c v2 _ _ s r kb e hQ
  | norat rs b n ns c v2 s r kb e o q => exact h.norat S rs b n ns c v2 _ _ s r kb e o q hQ
structure cNeedBw (kn : Nat) (f : List Val → Store → Res Val) : Prop where
  good : ∀ (S : Store) (M : List (List Rat)) (x : List Rat) (r : Rat) (n : Nat) (Q : Val → Store → Prop) (X : Xt), Bw M x r n → (∀ T, Keep S T → Q .non T) → W (f [bwV M x r] S) Q X
  bad : ∀ (S : Store) (v : Val) (Q : Val → Store → Prop) (X : Xt), NBw S v → (∀ T, Keep S T → X kn [v] T) → W (f [v] S) Q X
structure cLeast (kn kt : Nat) (f : List Val → Store → Res Val) : Prop where
  ok : ∀ (S : Store) (M : List (List Rat)) (x : List Rat) (r : Rat) (n k m : Nat) (Q : Val → Store → Prop) (X : Xt), Bw M x r n → Sd (joinT M).1 (joinT M).2 n k m → k ≤ 100 → m ≤ 100 → m + (k + 4) * n + 1 ≤ 400 → Rb 400 x → (∀ A T, Inv2 M A n → RbT 400 A → Rb 804 (appQ A x) → Keep S T → Q (.tup [rowR (appQ A x), tabR A, rV (r - dotQ x (appQ A x))]) T) → (det n (matOf (joinT M).1) = 0 → ∀ T, Keep S T → X kt [rowP (dirR (joinT M).1 n)] T) → W (f [bwV M x r] S) Q X
  bad : ∀ (S : Store) (v : Val) (Q : Val → Store → Prop) (X : Xt), NBw S v → (∀ T, Keep S T → X kn [v] T) → W (f [v] S) Q X
structure cMinusBw (kn : Nat) (f : List Val → Store → Res Val) : Prop where
  ok : ∀ (S : Store) (M N : List (List Rat)) (x y : List Rat) (r q : Rat) (n : Nat) (Q : Val → Store → Prop) (X : Xt), Bw M x r n → Bw N y q n → RbT 2000 M → RbT 2000 N → Bw (subT M N) (subQ x y) (r - q) n → (∀ T, Keep S T → Q (bwV (subT M N) (subQ x y) (r - q)) T) → W (f [bwV M x r, bwV N y q] S) Q X
  no : ∀ (S : Store) (M N : List (List Rat)) (x y : List Rat) (r q : Rat) (n : Nat) (Q : Val → Store → Prop) (X : Xt), Bw M x r n → Bw N y q n → RbT 2000 M → RbT 2000 N → (∀ T, Keep S T → NBw T (bwV (subT M N) (subQ x y) (r - q))) → (∀ T, Keep S T → X kn [bwV (subT M N) (subQ x y) (r - q)] T) → W (f [bwV M x r, bwV N y q] S) Q X
section
variable {P : Pg} {fu d : Nat}
end
end GW
set_option exponentiation.threshold 20000
/-! Core 133: texts read as whole numbers. -/
namespace GW
open PySem PySem.NumText
def L_are_figures : Cs := (.cons (.ife (.or (.cmp .eq (.var 0) (.cst (.str ""))) (.not (.blt .all (.cons (.lc false (.one 1) (.val (.var 0)) .nil (.cmp .inn (.var 1) (.glo "FIGURES" (.str "0123456789")))) .nil)))) (.cons (.ret (.cst (.bl false)))
    .nil) .nil)
  (.cons (.ret (.or (.cmp .eq (.var 0) (.cst (.str "0"))) (.cmp .ne (.idx (.var 0) (.cst (.int 0))) (.cst (.str "0")))))
  .nil))
def L_number_in (fg : Nat) : Cs := (.cons (.ife (.not (.isi (.var 0) ["str"])) (.cons (.ret (.cst .non))
    .nil) .nil)
  (.cons (.ife (.call fg (.cons (.var 0) .nil)) (.cons (.ret (.blt .int (.cons (.var 0) .nil)))
    .nil) .nil)
  (.cons (.ife (.and (.cmp .eq (.slc (.var 0) .no (.yes (.cst (.int 1)))) (.cst (.str "-"))) (.and (.call fg (.cons (.slc (.var 0) (.yes (.cst (.int 1))) .no) .nil)) (.cmp .ne (.var 0) (.cst (.str "-0"))))) (.cons (.ret (.bin .sub (.cst (.int 0)) (.blt .int (.cons (.slc (.var 0) (.yes (.cst (.int 1))) .no) .nil))))
    .nil) .nil)
  (.cons (.ret (.cst .non))
  .nil))))
def twRd : Cs := (.cons (.set 2 (.bin .add (.bin .mul (.cst (.int 10)) (.var 2)) (.mth .sindex (.cst (.str "0123456789")) (.cons (.var 3) .nil))))
    .nil)
def trTail : Cs := (.cons (.ife (.or (.cmp .eq (.var 1) (.cst (.str ""))) (.cmp .ne (.lc false (.one 3) (.val (.var 1)) (.cons (.cmp .nin (.var 3) (.cst (.str "0123456789"))) .nil) (.var 3)) (.lsd false .nil))) (.cons (.ret (.cst .non))
    .nil) .nil)
  (.cons (.ife (.and (.cmp .eq (.idx (.var 1) (.cst (.int 0))) (.cst (.str "0"))) (.cmp .ne (.var 0) (.cst (.str "0")))) (.cons (.ret (.cst .non))
    .nil) .nil)
  (.cons (.set 2 (.cst (.int 0)))
  (.cons (.forr (.one 3) (.val (.var 1)) twRd)
  (.cons (.ret (.bin .mul (.var 2) (.bin .sub (.cst (.int 1)) (.bin .mul (.cst (.int 2)) (.blt .int (.cons (.cmp .eq (.idx (.var 0) (.cst (.int 0))) (.cst (.str "-"))) .nil))))))
  .nil)))))
def L_l_reads : Cs := (.cons (.set 1 (.slc (.var 0) (.yes (.blt .int (.cons (.cmp .eq (.slc (.var 0) .no (.yes (.cst (.int 1)))) (.cst (.str "-"))) .nil))) .no)) trTail)
theorem t_e : Val.str "" = tS [] := rfl
theorem t_0 : Val.str "0" = tS [48] := rfl
theorem t_m : Val.str "-" = tS [45] := rfl
theorem t_m0 : Val.str "-0" = tS [45, 48] := rfl
theorem tlst_mk {l : List Val} (h : l.length ≤ 1000) (S : Store) : mkL false l S = .ok (.lst l) S := mkL_f (Nat.le_trans h (by decide))
theorem tisi (l : List Nat) (S : Store) : isiE S (tS l) ["str"] = some true := rfl
def rdN (l : List Nat) : Option Int := if fig l = true then some (digitsVal l) else match l with
  | 45 :: r => if fig r = true ∧ r ≠ [48] then some (-(digitsVal r : Int)) else none
  | _ => none
def oIn : Option Int → Val
  | some i => .int i
  | none => .non
def cFigs : Ct := fun f => ∀ (S : Store) (l : List Nat), l.length ≤ 600 → f [tS l] S = .ok (.bl (fig l)) S
def cNumIn : Ct := fun f => ∀ (S : Store) (l : List Nat), l.length ≤ 600 → f [tS l] S = .ok (oIn (rdN l)) S
def cReads : Ct := fun f => ∀ (S : Store) (l : List Nat), l.length ≤ 600 → Asc l → f [tS l] S = .ok (oIn (rdN l)) S
section
variable {P : Pg} {fu d : Nat}
theorem figures_at {i : Nat} (h : P.defs[i]? = some ⟨1, 2, L_are_figures⟩) : At P fu (d + 1) i cFigs := .mk h fun n _ S l hl => by
  cases l with
  | nil => simp [runD, L_are_figures, start0, t_e, eq_s, fig]
  | cons c r =>
    have li := lc_in (O := om P fu n) (en := [some (tS (c :: r)), none]) (S := S) (l := c :: r) (b := figL) (i := 1) (g := .glo "FIGURES" (.str "0123456789")) (by simp) (fun _ => rfl) (by omega)
    have al := all_ev (S := S) (c :: r) fun c => decide (c ∈ figL)
    have mk := tlst_mk (l := (c :: r).map fun c => Val.bl (decide (c ∈ figL))) (by simp; simp at hl; omega) S
    have it := items_s (S := S) (c :: r)
    generalize ((c :: r).map fun c => Val.bl (decide (c ∈ figL))) = R at li mk al
    generalize ((c :: r).map fun c => tS [c]) = I at li it
    have ix := idx_s (S := S) (c := c) (l := r) (by omega)
    have q : fig (c :: r) = (((c :: r).all fun c => decide (c ∈ figL)) && (decide (c :: r = [48]) || !decide ([c] = [48]))) := by
      unfold fig
      simp only [fig_mem]
      simp
    rw [q]
    generalize ((c :: r).all fun c => decide (c ∈ figL)) = p at al ⊢
    simp at li
    have e0 : cmpE .eq (tS (c :: r)) (tS []) S = some false := by rw [eq_s]; simp
    have e1 := eq_s (S := S) (c :: r) [48]
    have e2 := ne_s (S := S) [c] [48]
    generalize decide (c :: r = [48]) = p1 at e1 ⊢
    generalize decide ([c] = [48]) = p2 at e2 ⊢
    cases p
    · simp [runD, L_are_figures, start0, t_e, t_0, e0, it, li, mk, al]
    · cases p1
      · simp [runD, L_are_figures, start0, t_e, t_0, e0, it, li, mk, al, e1, ix, e2]
      · simp [runD, L_are_figures, start0, t_e, t_0, e0, it, li, mk, al, e1, ix, e2]
theorem number_in_at {i fg : Nat} (h : P.defs[i]? = some ⟨1, 1, L_number_in fg⟩) (hfg : At P fu d fg cFigs) : At P fu (d + 1) i cNumIn := .mk h fun n hd S l hl => by
  have f1 := hfg n hd S l hl
  unfold rdN
  by_cases h1 : fig l = true
  · rw [h1] at f1
    rw [if_pos h1]
    have i := int_fig (S := S) h1 hl
    simp [runD, L_number_in, start0, tisi, f1, i, oIn]
  · have h1' : fig l = false := by simpa using h1
    rw [h1'] at f1
    rw [if_neg h1]
    have s1 := slc_to (S := S) (l := l) 1 (by omega)
    have s2 := slc_from (S := S) (l := l) 1 (by omega)
    have e1 := eq_s (S := S) (l.take 1) [45]
    by_cases h2 : l.take 1 = [45]
    · obtain ⟨r, rfl⟩ : ∃ r, l = 45 :: r := by
        cases l with
        | nil => simp at h2
        | cons c r =>
          simp at h2
          exact ⟨r, by rw [h2]⟩
      have f2 := hfg n hd S r (by simp at hl; omega)
      simp at s1 s2
      show runD (om P fu n) ⟨1, 1, L_number_in fg⟩ [tS (45 :: r)] S = .ok (oIn (if fig r = true ∧ r ≠ [48] then some (-(digitsVal r : Int)) else none)) S
      have e2 := ne_s (S := S) (45 :: r) [45, 48]
      have e3 : decide (45 :: r = [45, 48]) = decide (r = [48]) := by simp
      rw [e3] at e2
      have e4 : cmpE .eq (tS [45]) (tS [45]) S = some true := by rw [eq_s]; simp
      by_cases h3 : fig r = true
      · have i := int_fig (S := S) h3 (by simp at hl; omega)
        rw [h3] at f2
        by_cases h4 : r = [48]
        · rw [if_neg (by simp [h4])]
          rw [decide_eq_true h4] at e2
          simp [runD, L_number_in, start0, tisi, f1, s1, s2, t_m, t_m0, e4, f2, e2, oIn]
        · rw [if_pos ⟨h3, h4⟩]
          rw [decide_eq_false h4] at e2
          simp [runD, L_number_in, start0, tisi, f1, s1, s2, t_m, t_m0, e4, f2, e2, oIn, i]
      · rw [if_neg (by simp [h3])]
        have h3' : fig r = false := by simpa using h3
        rw [h3'] at f2
        simp [runD, L_number_in, start0, tisi, f1, s1, s2, t_m, t_m0, e4, f2, oIn]
    · rw [decide_eq_false h2] at e1
      have z : (match l with
        | 45 :: r => if fig r = true ∧ r ≠ [48] then some (-(digitsVal r : Int)) else none
        | _ => none) = none := by
        split
        · exact absurd rfl h2
        · rfl
      rw [z]
      simp at s1
      simp [runD, L_number_in, start0, tisi, f1, s1, t_m, e1, oIn]
theorem tocc_fig : ∀ c ∈ figL, Builtin.Str.occurrences ⟨⟨figL⟩⟩ ⟨⟨[c]⟩⟩ 0 10 1 = [c - 48] := by decide +kernel
theorem tsidx {c : Nat} (h : dig c = true) (S : Store) : mthV .sindex (tS figL) [tS [c]] S = .ok (.int (c - 48 : Nat)) S := by
  have hm : c ∈ figL := by
    rw [← fig_mem] at h
    exact of_decide_eq_true h
  have o := tocc_fig c hm
  show (match Builtin.Str.occurrences ⟨⟨figL⟩⟩ ⟨⟨[c]⟩⟩ 0 10 1 with
    | i :: _ => Res.ok (Val.int (i : Nat)) S
    | [] => .stk) = _
  rw [o]
theorem tdv_snoc (l : List Nat) (c : Nat) : digitsVal (l ++ [c]) = digitsVal l * 10 + (c - 48) := by
  unfold digitsVal
  rw [List.foldl_append]
  rfl
theorem trd_loop {S : Store} {O : Om} {f : List Nat} (hd : f.all dig = true) (x y : Option Val) : ∃ o, forF [tS f] [f.map fun c => tS [c]] (.one 3) (fun en S => exS O twRd en S) (f.map fun c => tS [c]) [x, y, some (.int 0), none] S = .nx [x, y, some (.int (digitsVal f)), o] S := by
  obtain ⟨en', S', e, o, e1, e2⟩ := for_inv (cs := [tS f]) (xs := [f.map fun c => tS [c]]) (t := .one 3) (b := fun en S => exS O twRd en S)
    (fun k en S' => ∃ o : Option Val, en = [x, y, some (.int (digitsVal (f.take k))), o] ∧ S' = S) (fun _ _ S _ => live_1 fun _ h => by cases h) (f.map fun c => tS [c]) 0
    (fun j v en S' hj p => by
      obtain ⟨o, rfl, rfl⟩ := p
      rw [List.getElem?_map] at hj
      obtain ⟨c, hc, rfl⟩ := Option.map_eq_some_iff.mp hj
      have hm := List.all_eq_true.mp hd c (List.mem_of_getElem? hc)
      refine ⟨_, rfl, [x, y, some (.int (digitsVal (f.take (0 + j + 1)))), some (tS [c])], S', ?_, _, rfl, rfl⟩
      have ht : f.take (0 + j + 1) = f.take (0 + j) ++ [c] := by
        rw [Nat.zero_add, List.take_add_one, hc]
        rfl
      rw [ht, tdv_snoc]
      have m : ∀ x, mulOk 10 x = true := fun x => mulOk_l (by decide)
      have si := tsidx hm S'
      have ty : tyOk .sindex (tS figL) S' = true := rfl
      simp only [twRd, fig_lit]
      simp [bop_mul_int (m _), ty, si]
      omega) [x, y, some (.int 0), none] S ⟨none, rfl, rfl⟩
  subst e1 e2
  refine ⟨o, ?_⟩
  rw [e]
  simp
theorem treads_tail {S : Store} {O : Om} {c0 : Nat} {l' f : List Nat} (hl : (c0 :: l').length ≤ 600) (hlf : f.length ≤ 600) (haf : Asc f) : exS O trTail [some (tS (c0 :: l')), some (tS f), none, none] S = .rt (oIn (if (!decide (f = []) && f.all dig && (!decide (f.take 1 = [48]) || decide (c0 :: l' = [48]))) = true then some (digitsVal f * (1 - 2 * (if decide ([c0] = [45]) = true then 1 else 0))) else none)) S := by
  cases f with
  | nil => simp [trTail, t_e, eq_s, oIn]
  | cons c r =>
    have e2 : cmpE .eq (tS (c :: r)) (tS []) S = some false := by rw [eq_s]; simp
    have li := lc_nin (O := O) (en := [some (tS (c0 :: l')), some (tS (c :: r)), none, none]) (S := S) (l := c :: r) (b := figL) (i := 3) (g := .cst (.str "0123456789")) (by simp) (fun _ => rfl) (by omega)
    have mk := tlst_mk (l := ((c :: r).filter fun c => !decide (c ∈ figL)).map fun c => tS [c]) (by rw [List.length_map]; exact Nat.le_trans (List.length_filter_le _ _) (by omega)) S
    have mk0 := tlst_mk (l := []) (by simp) S
    have ne : cmpE .ne (.lst (((c :: r).filter fun c => !decide (c ∈ figL)).map fun c => tS [c])) (.lst []) S = some (!((c :: r).all dig)) := by
      show (eqV S _ _).map not = _
      rw [eq_strs_nil (fun d hd => haf d (List.mem_filter.mp hd).1)]
      show some (!decide _) = _
      congr 2
      rw [Bool.eq_iff_iff, decide_eq_true_iff, List.filter_eq_nil_iff, List.all_eq_true]
      constructor
      · intro h x hx
        have := h x hx
        rw [fig_mem] at this
        simpa using this
      · intro h x hx
        rw [fig_mem, h x hx]
        decide
    have it := items_s (S := S) (c :: r)
    have lo := fun hd => trd_loop (S := S) (O := O) (f := c :: r) hd (some (tS (c0 :: l'))) (some (tS (c :: r)))
    generalize (((c :: r).filter fun c => !decide (c ∈ figL)).map fun c => tS [c]) = R at li mk ne
    generalize ((c :: r).map fun c => tS [c]) = I at li it lo
    have i1 := idx_s (S := S) (c := c) (l := r) (by omega)
    have i0 := idx_s (S := S) (c := c0) (l := l') (by omega)
    have e3 := eq_s (S := S) [c] [48]
    have e4 := ne_s (S := S) (c0 :: l') [48]
    have e5 := eq_s (S := S) [c0] [45]
    have t1 : (c :: r).take 1 = [c] := rfl
    rw [t1]
    have n0 : decide (c :: r = []) = false := by simp
    rw [n0]
    simp at li
    generalize hq : (c :: r).all dig = q at ne lo ⊢
    generalize digitsVal (c :: r) = D at lo ⊢
    generalize decide ([c] = [48]) = p1 at e3 ⊢
    generalize decide (c0 :: l' = [48]) = p2 at e4 ⊢
    generalize decide ([c0] = [45]) = p3 at e5 ⊢
    cases q
    · simp [trTail, t_e, e2, it, li, mk, mk0, ne, oIn]
    · obtain ⟨o, lo⟩ := lo rfl
      have m1 : ∀ x, mulOk 2 x = true := fun x => mulOk_l (by decide)
      have m2 : ∀ x, mulOk x (-1) = true := fun x => mulOk_r (by decide)
      have m3 : ∀ x, mulOk x 1 = true := fun x => mulOk_r (by decide)
      cases p1 <;> cases p2 <;> cases p3 <;>
      simp [trTail, t_e, t_0, t_m, e2, it, li, mk, mk0, ne, oIn, i1, e3, e4, lo, i0, e5, bop_mul_int (m1 _), bop_mul_int (m2 _), bop_mul_int (m3 _)]
theorem reads_at {i : Nat} (h : P.defs[i]? = some ⟨1, 4, L_l_reads⟩) : At P fu (d + 1) i cReads := .mk h fun n _ S l hl ha => by
  have s1 := slc_to (S := S) (l := l) 1 (by omega)
  have e1 := eq_s (S := S) (l.take 1) [45]
  cases l with
  | nil =>
    have s2 := slc_from (S := S) (l := []) 0 (by omega)
    simp at s1 s2
    have e2 : cmpE .eq (tS []) (tS [45]) S = some false := by rw [eq_s]; simp
    simp [runD, L_l_reads, start0, tisi, s1, t_m, e2, s2, trTail, t_e, eq_s, rdN, fig, oIn]
  | cons c0 r =>
    by_cases h : c0 = 45
    · subst h
      have s2 := slc_from (S := S) (l := 45 :: r) 1 (by omega)
      simp at s1 s2
      have e2 : cmpE .eq (tS [45]) (tS [45]) S = some true := by rw [eq_s]; simp
      have tl := treads_tail (O := om P fu n) (S := S) (c0 := 45) (l' := r) (f := r) hl (by simp at hl; omega) (fun c hc => ha c (List.mem_cons_of_mem _ hc))
      have ev : rdN (45 :: r) = (if (!decide (r = []) && r.all dig && (!decide (r.take 1 = [48]) || decide (45 :: r = [48]))) = true then some ((digitsVal r : Int) * (1 - 2 * (if decide ([45] = [45]) = true then 1 else 0))) else none) := by
        have z : fig (45 :: r) = false := by simp [fig, dig]
        show (if fig (45 :: r) = true then _ else (if fig r = true ∧ r ≠ [48] then some (-(digitsVal r : Int)) else none)) = _
        rw [z, if_neg (by decide)]
        by_cases h48 : r = [48]
        · subst h48
          rfl
        · have q : (!decide (r = []) && r.all dig && (!decide (r.take 1 = [48]) || decide (45 :: r = [48]))) = fig r := by
            unfold fig
            simp [h48]
          rw [q]
          cases hq : fig r
          · simp
          · simp [h48]
      rw [← ev] at tl
      simp [runD, L_l_reads, start0, tisi, s1, t_m, e2, s2, tl]
    · have s2 := slc_from (S := S) (l := c0 :: r) 0 (by omega)
      simp at s1 s2
      have e2 : cmpE .eq (tS [c0]) (tS [45]) S = some false := by rw [eq_s]; simp [h]
      have tl := treads_tail (O := om P fu n) (S := S) (c0 := c0) (l' := r) (f := c0 :: r) hl hl ha
      have ev : rdN (c0 :: r) = (if (!decide (c0 :: r = []) && (c0 :: r).all dig && (!decide ((c0 :: r).take 1 = [48]) || decide (c0 :: r = [48]))) = true then some ((digitsVal (c0 :: r) : Int) * (1 - 2 * (if decide ([c0] = [45]) = true then 1 else 0))) else none) := by
        have q : (!decide (c0 :: r = []) && (c0 :: r).all dig && (!decide ((c0 :: r).take 1 = [48]) || decide (c0 :: r = [48]))) = fig (c0 :: r) := by
          unfold fig
          rw [Bool.or_comm]
        rw [q]
        have z : rdN (c0 :: r) = if fig (c0 :: r) = true then some (digitsVal (c0 :: r) : Int) else none := by
          unfold rdN
          congr 1
          split
          · rename_i r' e
            cases e
            exact absurd rfl h
          · rfl
        rw [z, decide_eq_false (show ¬ [c0] = [45] by simp [h])]
        simp
      rw [← ev] at tl
      simp [runD, L_l_reads, start0, tisi, s1, t_m, e2, s2, tl]
end
end GW
set_option exponentiation.threshold 20000
/-! Core 134: whole numbers and ratios as texts. -/
namespace GW
open PySem PySem.NumText
def nuT : Int → List Nat
  | .ofNat n => TL.numL n
  | .negSucc n => 45 :: TL.numL (n + 1)
theorem str_nu {i : Int} {S : Store} (h : i.natAbs < 2 ^ 1900) : bltV .str [.int i] S = .ok (tS (nuT i)) S := by
  have hl : i.natAbs.log2 < 1920 := by
    by_cases z : i.natAbs = 0
    · rw [z]; decide
    · exact Nat.lt_trans ((Nat.log2_lt z).mpr h) (by decide)
  have e : bltV .str [.int i] S = .ok (.str (Str.ofString (toString i))) S := if_pos hl
  rw [e]
  have key : Str.ofString (toString i) = ⟨(nuT i).toArray⟩ := by
    refine TL.ext_tl ?_
    cases i with
    | ofNat n => exact TL.tl_num n
    | negSucc n =>
      show TL.tl (Str.ofString (toString (Int.negSucc n))) = 45 :: TL.numL (n + 1)
      show (Str.ofString (toString (Int.negSucc n))).cps.toList = _
      rw [PyProof.Rows.signs_ofString]
      show ("-" ++ Nat.repr (n + 1)).toList.map Char.toNat = _
      rw [String.toList_append, List.map_append, Nat.toList_repr]
      rfl
  rw [key]
  rfl
theorem dig_num (n : Nat) : (TL.numL n).all dig = true := by
  refine List.all_eq_true.mpr fun c hc => ?_
  have := TL.numL_digits n c hc
  unfold dig
  simp [this]
theorem num_head : ∀ n : Nat, n ≠ 0 → (TL.numL n).take 1 ≠ [48] := fun n => by
  induction n using Nat.strongRecOn with
  | _ n ih =>
    intro h0
    by_cases h : n < 10
    · rw [TL.numL_lt h]
      simp
      omega
    · rw [TL.numL_step (by omega)]
      have hne := TL.numL_ne (n / 10)
      have := ih (n / 10) (by omega) (by omega)
      cases hq : TL.numL (n / 10) with
      | nil => exact absurd hq hne
      | cons c r =>
        rw [hq] at this
        simpa using this
theorem fig_num (n : Nat) : fig (TL.numL n) = true := by
  unfold fig
  rw [dig_num, decide_eq_false (TL.numL_ne n)]
  by_cases h : n = 0
  · subst h
    rfl
  · rw [decide_eq_false (num_head n h)]
    simp
theorem fig_back {l : List Nat} (h : fig l = true) : TL.numL (digitsVal l) = l := by
  unfold fig at h
  simp only [Bool.and_eq_true, Bool.or_eq_true, Bool.not_eq_true', decide_eq_false_iff_not, decide_eq_true_eq] at h
  obtain ⟨⟨h0, h1⟩, h2⟩ := h
  have ad := all_dig h1
  cases l with
  | nil => exact absurd rfl h0
  | cons c r =>
    have hc := ad.head
    have t := toDigits_digitsVal r.length (c :: r) rfl ad (by
      rcases h2 with h2 | h2
      · left
        simp at h2
        simp [h2]
      · right
        refine ⟨c, r, rfl, ?_⟩
        simp at h2
        omega)
    show (Nat.toDigits 10 (digitsVal (c :: r))).map Char.toNat = _
    rw [t, List.map_map]
    refine (List.map_congr_left fun x hx => ?_).trans (List.map_id _)
    have := ad x hx
    show (Char.ofNat x).toNat = x
    have hd : ∀ d, d < 10 → (Char.ofNat (48 + d)).toNat = 48 + d := by decide
    have := hd (x - 48) (by omega)
    rw [show 48 + (x - 48) = x by omega] at this
    exact this
theorem rd_nu (i : Int) : rdN (nuT i) = some i := by
  cases i with
  | ofNat n =>
    show rdN (TL.numL n) = _
    unfold rdN
    rw [if_pos (fig_num n), TL.numL_val]
    rfl
  | negSucc n =>
    show rdN (45 :: TL.numL (n + 1)) = _
    have z : fig (45 :: TL.numL (n + 1)) = false := by simp [fig, dig]
    show (if fig (45 :: TL.numL (n + 1)) = true then _ else (if fig (TL.numL (n + 1)) = true ∧ TL.numL (n + 1) ≠ [48] then some (-(digitsVal (TL.numL (n + 1)) : Int)) else none)) = _
    rw [z, if_neg (by decide), if_pos ⟨fig_num _, fun h => by
      have := congrArg digitsVal h
      rw [TL.numL_val] at this
      simp [digitsVal] at this⟩, TL.numL_val]
    rfl
theorem nu_rd {l : List Nat} {i : Int} (h : rdN l = some i) : nuT i = l := by
  unfold rdN at h
  by_cases h1 : fig l = true
  · rw [if_pos h1] at h
    have := Option.some.inj h
    subst this
    exact fig_back h1
  · rw [if_neg h1] at h
    split at h
    · rename_i r
      split at h
      · rename_i hr
        have hi := Option.some.inj h
        subst hi
        have hb := fig_back hr.1
        have hp : digitsVal r ≠ 0 := fun z => by
          rw [z] at hb
          exact hr.2 (hb.symm.trans rfl)
        obtain ⟨m, hm⟩ := Nat.exists_eq_succ_of_ne_zero hp
        rw [hm] at hb ⊢
        show 45 :: TL.numL (m + 1) = _
        rw [hb]
      · cases h
    · cases h
theorem nu_free (i : Int) : 47 ∉ nuT i := by
  cases i with
  | ofNat n => exact TL.numL_free (.inl (by decide))
  | negSucc n =>
    intro h
    rcases List.mem_cons.mp h with h | h
    · cases h
    · exact TL.numL_free (.inl (by decide)) h
theorem nu_asc (i : Int) : Asc (nuT i) := by
  have ad : ∀ n, Asc (TL.numL n) := fun n c hc => by
    have := TL.numL_digits n c hc
    omega
  cases i with
  | ofNat n => exact ad n
  | negSucc n =>
    intro c hc
    rcases List.mem_cons.mp hc with h | h
    · omega
    · exact ad _ c h
theorem nu_len {i : Int} {k : Nat} (hk : 0 < k) (h : i.natAbs < 10 ^ k) : (nuT i).length ≤ k + 1 := by
  cases i with
  | ofNat n => exact Nat.le_succ_of_le (TL.numL_len hk h)
  | negSucc n =>
    show (TL.numL (n + 1)).length + 1 ≤ _
    have := TL.numL_len (n := n + 1) hk h
    omega
theorem rd_free {l : List Nat} {i : Int} (h : rdN l = some i) : 47 ∉ l := by
  rw [← nu_rd h]
  exact nu_free i
/-! ratios -/
def raT (t b : Int) : List Nat := if b = 1 then nuT t else nuT t ++ (47 :: nuT b)
def rdR (l : List Nat) : Option (Int × Int) := match TL.par [47] [] l with
  | none => (rdN l).map fun t => (t, 1)
  | some (p, q) => (match rdN p, rdN q with
    | some t, some b => if 2 ≤ b ∧ Int.gcd t b = 1 then some (t, b) else none
    | _, _ => none)
def oRa : Option (Int × Int) → Val
  | some (t, b) => .tup [.int t, .int b]
  | none => .non
theorem par_cases (l : List Nat) : (47 ∉ l ∧ TL.par [47] [] l = none ∧ TL.spl [47] 0 [] l = [l]) ∨ ∃ p q, l = p ++ 47 :: q ∧ 47 ∉ p ∧ TL.par [47] [] l = some (p, q) ∧ TL.spl [47] 0 [] l = p :: TL.spl [47] 0 [] q := by
  by_cases h : 47 ∈ l
  · obtain ⟨p, q, e, hp⟩ := List.eq_append_cons_of_mem h
    have s1 := TL.spl_part1 (S := []) (rest := q) (acc := []) hp
    have s2 := TL.par_part1 (S := []) (rest := q) (acc := []) hp
    exact .inr ⟨p, q, e, hp, by rw [e]; exact s2, by rw [e]; exact s1⟩
  · exact .inl ⟨h, TL.par_none1 h, TL.spl_last1 h⟩
theorem spl_ne (l : List Nat) : TL.spl [47] 0 [] l ≠ [] := by
  rcases par_cases l with ⟨_, _, e⟩ | ⟨p, q, _, _, _, e⟩ <;> rw [e] <;> simp
theorem ra_none {t : Int} : TL.par [47] [] (nuT t) = none := TL.par_none1 (nu_free t)
theorem ra_some (t : Int) (q : List Nat) : TL.par [47] [] (nuT t ++ 47 :: q) = some (nuT t, q) := TL.par_part1 (S := []) (acc := []) (nu_free t)
theorem rd_ra {t b : Int} (hb : 0 < b) (hg : Int.gcd t b = 1) : rdR (raT t b) = some (t, b) := by
  unfold raT rdR
  by_cases h : b = 1
  · rw [if_pos h, ra_none, rd_nu, h]
    rfl
  · rw [if_neg h, ra_some]
    show (match rdN (nuT t), rdN (nuT b) with
      | some t, some b => if 2 ≤ b ∧ Int.gcd t b = 1 then some (t, b) else none
      | _, _ => none) = _
    rw [rd_nu, rd_nu]
    exact if_pos ⟨by omega, hg⟩
theorem ra_rd {l : List Nat} {t b : Int} (h : rdR l = some (t, b)) : raT t b = l ∧ 0 < b ∧ Int.gcd t b = 1 := by
  unfold rdR at h
  rcases par_cases l with ⟨_, e, _⟩ | ⟨p, q, hl, hp, e, _⟩
  · rw [e] at h
    cases hr : rdN l with
    | none => rw [hr] at h; cases h
    | some i =>
      rw [hr] at h
      cases h
      refine ⟨?_, by decide, by simp⟩
      unfold raT
      rw [if_pos rfl]
      exact nu_rd hr
  · rw [e] at h
    cases hr : rdN p with
    | none => simp [hr] at h
    | some i =>
      cases hq : rdN q with
      | none => simp [hr, hq] at h
      | some j =>
        simp only [hr, hq] at h
        split at h
        · rename_i hj
          cases h
          refine ⟨?_, by omega, hj.2⟩
          unfold raT
          rw [if_neg (by omega), nu_rd hr, nu_rd hq, hl]
        · cases h
theorem ra_asc (t b : Int) : Asc (raT t b) := by
  unfold raT
  split
  · exact nu_asc t
  · refine (nu_asc t).app fun c hc => ?_
    rcases List.mem_cons.mp hc with h | h
    · omega
    · exact nu_asc b c h
theorem ra_len {t b : Int} {k m : Nat} (h0 : 0 < k) (h1 : 0 < m) (ht : t.natAbs < 10 ^ k) (hb : b.natAbs < 10 ^ m) : (raT t b).length ≤ k + m + 3 := by
  have := nu_len h0 ht
  have := nu_len h1 hb
  unfold raT
  split
  · omega
  · rw [List.length_append, List.length_cons]
    omega
end GW
set_option exponentiation.threshold 20000
/-! Core 135: ratios as texts, in the program. -/
namespace GW
open PySem PySem.NumText
theorem t_sl : Val.str "/" = tS [47] := rfl
def L_ratio_text (nr : Nat) : Cs := (.cons (.exp (.call nr (.cons (.var 0) .nil)))
  (.cons (.ife (.cmp .eq (.idx (.var 0) (.cst (.int 1))) (.cst (.int 1))) (.cons (.ret (.blt .str (.cons (.idx (.var 0) (.cst (.int 0))) .nil)))
    .nil) .nil)
  (.cons (.ret (.bin .add (.bin .add (.blt .str (.cons (.idx (.var 0) (.cst (.int 0))) .nil)) (.cst (.str "/"))) (.blt .str (.cons (.idx (.var 0) (.cst (.int 1))) .nil))))
  .nil)))
def L_ratio_in (ni co : Nat) : Cs := (.cons (.ife (.not (.isi (.var 0) ["str"])) (.cons (.ret (.cst .non))
    .nil) .nil)
  (.cons (.set 1 (.mth .split (.var 0) (.cons (.cst (.str "/")) .nil)))
  (.cons (.set 2 (.lc false (.one 3) (.val (.var 1)) .nil (.call ni (.cons (.var 3) .nil))))
  (.cons (.ife (.and (.cmp .eq (.blt .len (.cons (.var 1) .nil)) (.cst (.int 1))) (.cmp .isn (.idx (.var 2) (.cst (.int 0))) (.cst .non))) (.cons (.ret (.tpd (.cons (.idx (.var 2) (.cst (.int 0))) (.cons (.cst (.int 1)) .nil))))
    .nil) .nil)
  (.cons (.ife (.or (.cmp .ne (.blt .len (.cons (.var 1) .nil)) (.cst (.int 2))) (.or (.cmp .is (.idx (.var 2) (.cst (.int 0))) (.cst .non)) (.or (.cmp .is (.idx (.var 2) (.cst (.int 1))) (.cst .non)) (.cmp .lt (.idx (.var 2) (.cst (.int 1))) (.cst (.int 2)))))) (.cons (.ret (.cst .non))
    .nil) .nil)
  (.cons (.ife (.cmp .ne (.call co (.cons (.idx (.var 2) (.cst (.int 0))) (.cons (.idx (.var 2) (.cst (.int 1))) .nil))) (.cst (.int 1))) (.cons (.ret (.cst .non))
    .nil) .nil)
  (.cons (.ret (.tpd (.cons (.idx (.var 2) (.cst (.int 0))) (.cons (.idx (.var 2) (.cst (.int 1))) .nil))))
  .nil)))))))
def L_l_sign (tk : Nat) : Cs := (.cons (.set 1 (.cst (.str " !\"#$&'()*+,-./0123456789:;<=>?@ABCDEFGHIJKLMNOPQRSTUVWXYZ[\\]^_`")))
  (.cons (.set 1 (.bin .add (.var 1) (.cst (.str "abcdefghijklmnopqrstuvwxyz{|}~\n"))))
  (.cons (.ret (.idx (.var 1) (.call tk (.cons (.var 0) (.cons (.blt .len (.cons (.var 1) .nil)) .nil)))))
  .nil)))
def L_l_bent (sg : Nat) : Cs := (.cons (.set 4 (.bin .mod (.var 3) (.bin .add (.blt .len (.cons (.var 1) .nil)) (.cst (.int 1)))))
  (.cons (.ife (.cmp .eq (.var 2) (.cst (.int 0))) (.cons (.ret (.bin .add (.bin .add (.slc (.var 1) .no (.yes (.var 4))) (.call sg (.cons (.var 0) .nil))) (.slc (.var 1) (.yes (.var 4)) .no)))
    .nil) .nil)
  (.cons (.ife (.cmp .eq (.var 2) (.cst (.int 1))) (.cons (.ret (.bin .add (.slc (.var 1) .no (.yes (.var 4))) (.slc (.var 1) (.yes (.bin .add (.var 4) (.cst (.int 1)))) .no)))
    .nil) .nil)
  (.cons (.ife (.cmp .eq (.var 2) (.cst (.int 2))) (.cons (.ret (.bin .add (.bin .add (.slc (.var 1) .no (.yes (.var 4))) (.call sg (.cons (.var 0) .nil))) (.slc (.var 1) (.yes (.bin .add (.var 4) (.cst (.int 1)))) .no)))
    .nil) .nil)
  (.cons (.ret (.bin .add (.bin .add (.slc (.var 1) .no (.yes (.var 4))) (.slc (.var 1) (.yes (.var 4)) (.yes (.bin .add (.var 4) (.cst (.int 1)))))) (.slc (.var 1) (.yes (.var 4)) .no)))
  .nil)))))
def L_l_is_ratio (co : Nat) : Cs := (.cons (.ife (.or (.not (.isi (.var 0) ["tuple"])) (.cmp .ne (.blt .len (.cons (.var 0) .nil)) (.cst (.int 2)))) (.cons (.ret (.cst (.bl false)))
    .nil) .nil)
  (.cons (.forr (.one 1) (.val (.var 0)) (.cons (.ife (.or (.not (.isi (.var 1) ["int"])) (.isi (.var 1) ["bool"])) (.cons (.ret (.cst (.bl false)))
      .nil) .nil)
    .nil))
  (.cons (.ret (.and (.cmp .gt (.idx (.var 0) (.cst (.int 1))) (.cst (.int 0))) (.cmp .eq (.call co (.cons (.idx (.var 0) (.cst (.int 0))) (.cons (.idx (.var 0) (.cst (.int 1))) .nil))) (.cst (.int 1)))))
  .nil)))
def L_l_same (ir : Nat) : Cs := (.cons (.ret (.and (.call ir (.cons (.var 0) .nil)) (.cmp .eq (.var 0) (.var 1))))
  .nil)
def L_l_rdue (rd co : Nat) : Cs := (.cons (.ife (.not (.isi (.var 0) ["str"])) (.cons (.ret (.cst .non))
    .nil) .nil)
  (.cons (.tset [3, 4, 5] (.mth .partition (.var 0) (.cons (.cst (.str "/")) .nil)))
  (.cons (.set 1 (.call rd (.cons (.var 3) .nil)))
  (.cons (.ife (.cmp .eq (.var 4) (.cst (.str ""))) (.cons (.ret (.idx (.lsd false (.cons (.tpd (.cons (.var 1) (.cons (.cst (.int 1)) .nil))) (.cons (.cst .non) .nil))) (.blt .int (.cons (.cmp .is (.var 1) (.cst .non)) .nil))))
    .nil) .nil)
  (.cons (.set 2 (.call rd (.cons (.var 5) .nil)))
  (.cons (.ife (.or (.cmp .is (.var 1) (.cst .non)) (.or (.cmp .is (.var 2) (.cst .non)) (.or (.cmp .lt (.var 2) (.cst (.int 2))) (.cmp .ne (.call co (.cons (.var 1) (.cons (.var 2) .nil))) (.cst (.int 1)))))) (.cons (.ret (.cst .non))
    .nil) .nil)
  (.cons (.ret (.tpd (.cons (.var 1) (.cons (.var 2) .nil))))
  .nil)))))))
def L_l_rright (ri du sa rt : Nat) : Cs := (.cons (.set 1 (.call ri (.cons (.var 0) .nil)))
  (.cons (.set 2 (.call du (.cons (.var 0) .nil)))
  (.cons (.ife (.cmp .is (.var 2) (.cst .non)) (.cons (.ret (.cmp .is (.var 1) (.cst .non)))
    .nil) .nil)
  (.cons (.ret (.and (.call sa (.cons (.var 1) (.cons (.var 2) .nil))) (.cmp .eq (.call rt (.cons (.var 1) .nil)) (.var 0))))
  .nil))))
def L_l_trefused (rt : Nat) : Cs := (.cons (.set 1 (.cst .non))
  (.cons (.tri (.cons (.exp (.call rt (.cons (.var 0) .nil)))
    .nil) (.cons 1 (some 2) (.cons (.set 1 (.lsd false (.cons (.efl 4 1 0) .nil)))
    .nil) .nil))
  (.cons (.ife (.or (.cmp .is (.var 1) (.cst .non)) (.cmp .ne (.blt .repr (.cons (.var 1) .nil)) (.blt .repr (.cons (.lsd false (.cons (.var 0) .nil)) .nil)))) (.cons (.ret (.cst (.bl false)))
    .nil) .nil)
  (.cons (.ife (.isi (.var 0) ["list"]) (.cons (.exp (.mth .append (.var 0) (.cons (.cst (.str "more")) .nil)))
    (.cons (.set 3 (.cmp .eq (.blt .repr (.cons (.var 1) .nil)) (.blt .repr (.cons (.lsd false (.cons (.var 0) .nil)) .nil))))
    (.cons (.exp (.mth .pop (.var 0) .nil))
    (.cons (.ret (.var 3))
    .nil)))) .nil)
  (.cons (.ret (.cst (.bl true)))
  .nil)))))
def L_l_great_right (lo gr rt sa ri : Nat) : Cs := (.cons (.set 1 (.call lo (.cons (.call gr (.cons (.var 0) .nil)) (.cons (.blt .abs (.cons (.call gr (.cons (.var 0) .nil)) .nil)) .nil))))
  (.cons (.set 2 (.call rt (.cons (.var 1) .nil)))
  (.cons (.set 3 (.bin .add (.blt .str (.cons (.idx (.var 1) (.cst (.int 0))) .nil)) (.bin .mul (.bin .add (.cst (.str "/")) (.blt .str (.cons (.idx (.var 1) (.cst (.int 1))) .nil))) (.blt .int (.cons (.cmp .gt (.idx (.var 1) (.cst (.int 1))) (.cst (.int 1))) .nil)))))
  (.cons (.ret (.and (.cmp .eq (.var 2) (.var 3)) (.and (.call sa (.cons (.call ri (.cons (.var 2) .nil)) (.cons (.var 1) .nil))) (.cmp .is (.call ri (.cons (.bin .add (.var 2) (.cst (.str "/"))) .nil)) (.cst .non)))))
  .nil))))
/-! what a text's pieces are -/
theorem spl_ok {l : List Nat} {S : Store} (h : l.length ≤ 5000) : mthV .split (tS l) [tS [47]] S = .ok (.lst ((TL.spl [47] 0 [] l).map tS)) S := by
  have e := SX.split_S (a := l) (b := [47]) (by decide) (by decide)
  show (if ((⟨⟨[47]⟩⟩ : Str).length == 0) = false ∧ (⟨⟨l⟩⟩ : Str).length + 2 ≤ sizeLine then Res.ok (Val.lst ((Txt.split (⟨⟨l⟩⟩ : Str) ⟨⟨[47]⟩⟩).map Val.str)) S else .stk) = _
  rw [if_pos ⟨rfl, by
    show l.length + 2 ≤ 2 ^ 24
    omega⟩]
  change Txt.split (⟨⟨l⟩⟩ : Str) ⟨⟨[47]⟩⟩ = _ at e
  rw [e, List.map_map]
  rfl
theorem prt_ok {l : List Nat} {S : Store} (h : l.length ≤ 5000) : mthV .partition (tS l) [tS [47]] S = .ok (match TL.par [47] [] l with
    | some (p, q) => .tup [tS p, tS [47], tS q]
    | none => .tup [tS l, tS [], tS []]) S := by
  show (if ((⟨⟨[47]⟩⟩ : Str).length == 0) = false ∧ (⟨⟨l⟩⟩ : Str).length ≤ sizeLine then Res.ok (Val.tup [.str (Txt.partition (⟨⟨l⟩⟩ : Str) ⟨⟨[47]⟩⟩).1, .str (Txt.partition (⟨⟨l⟩⟩ : Str) ⟨⟨[47]⟩⟩).2.1, .str (Txt.partition (⟨⟨l⟩⟩ : Str) ⟨⟨[47]⟩⟩).2.2]) S else .stk) = _
  rw [if_pos ⟨rfl, by
    show l.length ≤ 2 ^ 24
    omega⟩]
  cases e : TL.par [47] [] l with
  | none =>
    have := SX.partition_none (a := l) (b := [47]) (by decide) e
    change Txt.partition (⟨⟨l⟩⟩ : Str) ⟨⟨[47]⟩⟩ = _ at this
    rw [this]
    rfl
  | some pq =>
    have := SX.partition_some (a := l) (b := [47]) (by decide) e
    change Txt.partition (⟨⟨l⟩⟩ : Str) ⟨⟨[47]⟩⟩ = _ at this
    rw [this]
    rfl
theorem dv_go : ∀ (l : List Nat) (a : Nat), l.all dig = true → l.foldl (fun acc c => acc * 10 + (c - 48)) a < (a + 1) * 10 ^ l.length
  | [], a, _ => by simp
  | c :: l, a, h => by
    rw [List.all_cons, Bool.and_eq_true] at h
    have hc : 48 ≤ c ∧ c ≤ 57 := by
      have := h.1
      unfold dig at this
      simpa using this
    refine Nat.lt_of_lt_of_le (dv_go l (a * 10 + (c - 48)) h.2) ?_
    rw [List.length_cons, Nat.pow_succ, Nat.mul_comm (10 ^ l.length) 10, ← Nat.mul_assoc]
    exact Nat.mul_le_mul_right _ (by omega)
theorem dv_lt (l : List Nat) (h : l.all dig = true) : digitsVal l < 10 ^ l.length := by
  have := dv_go l 0 h
  rw [Nat.zero_add, Nat.one_mul] at this
  exact this
theorem rd_lt {l : List Nat} {i : Int} (h : rdN l = some i) : i.natAbs < 10 ^ l.length := by
  unfold rdN at h
  by_cases h1 : fig l = true
  · rw [if_pos h1] at h
    have := Option.some.inj h
    subst this
    unfold fig at h1
    simp only [Bool.and_eq_true] at h1
    exact dv_lt l h1.1.2
  · rw [if_neg h1] at h
    split at h
    · rename_i r
      split at h
      · rename_i hr
        have hi := Option.some.inj h
        subst hi
        have h1 := hr.1
        unfold fig at h1
        simp only [Bool.and_eq_true] at h1
        have := dv_lt r h1.1.2
        rw [List.length_cons, Nat.pow_succ]
        omega
      · cases h
    · cases h
theorem p10_600 : 10 ^ 600 ≤ 2 ^ 9000 := by decide
theorem rd_lt9 {l : List Nat} {i : Int} (h : rdN l = some i) (hl : l.length ≤ 600) : i.natAbs < 2 ^ 9000 :=
  Nat.lt_of_lt_of_le (rd_lt h) (Nat.le_trans (Nat.pow_le_pow_right (by decide) hl) p10_600)
/-! contracts -/
def Pcs (l : List Nat) : Prop := l.length ≤ 1500 ∧ (TL.spl [47] 0 [] l).length ≤ 900 ∧ ∀ p ∈ TL.spl [47] 0 [] l, p.length ≤ 600
def cRaIn : Ct := fun f => (∀ (S : Store) (l : List Nat), Pcs l → f [tS l] S = .ok (oRa (rdR l)) S) ∧ ∀ (S : Store) (v : Val), isiE S v ["str"] = some false → f [v] S = .ok .non S
def cRaDue : Ct := fun f => (∀ (S : Store) (l : List Nat), l.length ≤ 600 → Asc l → f [tS l] S = .ok (oRa (rdR l)) S) ∧ ∀ (S : Store) (v : Val), isiE S v ["str"] = some false → f [v] S = .ok .non S
theorem spl_len (l : List Nat) : ∀ n, l.length ≤ n → (TL.spl [47] 0 [] l).length ≤ l.length + 1 ∧ ∀ p ∈ TL.spl [47] 0 [] l, p.length ≤ l.length := by
  intro n
  induction n generalizing l with
  | zero =>
    intro h
    have : l = [] := by simpa using h
    subst this
    decide
  | succ n ih =>
    intro h
    rcases par_cases l with ⟨_, _, e⟩ | ⟨p, q, hl, _, _, e⟩
    · rw [e]
      simp
    · have hq : l.length = p.length + (q.length + 1) := by rw [hl]; simp
      obtain ⟨a, b⟩ := ih q (by omega)
      rw [e]
      refine ⟨by rw [List.length_cons]; omega, fun x hx => ?_⟩
      rcases List.mem_cons.mp hx with rfl | hx
      · omega
      · have := b x hx
        omega
theorem Pcs.of {l : List Nat} (h : l.length ≤ 600) : Pcs l := by
  obtain ⟨a, b⟩ := spl_len l _ (Nat.le_refl _)
  exact ⟨by omega, by omega, fun p hp => Nat.le_trans (b p hp) h⟩
theorem lst_len (L : List Val) (S : Store) : bltV .len [.lst L] S = .ok (.int L.length) S := rfl
theorem oin_isn (o : Option Int) (S : Store) : cmpE .isn (oIn o) .non S = some o.isSome := by cases o <;> rfl
theorem oin_is (o : Option Int) (S : Store) : cmpE .is (oIn o) .non S = some o.isNone := by cases o <;> rfl
theorem lst_i0 (a : Val) (r : List Val) (S : Store) : idxV (.lst (a :: r)) (.int 0) S = .ok a S := by
  have := W_idxLN (xs := a :: r) (k := 0) (v := a) (S := S) (Q := fun u T => u = a ∧ T = S) (X := nX) rfl
  exact W.eq (this.mpr ⟨rfl, rfl⟩)
theorem lst_i1 (a b : Val) (r : List Val) (S : Store) : idxV (.lst (a :: b :: r)) (.int 1) S = .ok b S := by
  have := W_idxLN (xs := a :: b :: r) (k := 1) (v := b) (S := S) (Q := fun u T => u = b ∧ T = S) (X := nX) rfl
  exact W.eq (this.mpr ⟨rfl, rfl⟩)
section
variable {P : Pg} {fu d : Nat}
theorem ratio_in_at {i ni co : Nat} (h : P.defs[i]? = some ⟨1, 4, L_ratio_in ni co⟩) (hn : At P fu d ni cNumIn) (hc : At P fu d co (cGcd fu)) (hf : 2 ^ 9000 ≤ fu) : At P fu (d + 1) i cRaIn := .mk h fun n hd => ⟨fun S l hl => by
  have hn := hn n hd
  have hc := hc n hd
  have sp := spl_ok (S := S) (l := l) (by have := hl.1; omega)
  have l1 := lc_all (cs := [Val.lst ((TL.spl [47] 0 [] l).map tS)]) (xs := [(TL.spl [47] 0 [] l).map tS]) (en := [some (tS l), some (Val.lst ((TL.spl [47] 0 [] l).map tS)), none, none]) (S := S) (i := 3) (test := fun en' S' => evC (om P fu n) .nil en' S') (elt := fun en' S' => evE (om P fu n) (.call ni (.cons (.var 3) .nil)) en' S') (live_1 fun _ h => by cases h) (fun v => match v with
    | .str z => oIn (rdN z.cps.toList)
    | _ => .non) (its := (TL.spl [47] 0 [] l).map tS) (acc := []) (by have := hl.2.1; simp; omega) (fun v hv => by
    obtain ⟨c, hc, rfl⟩ := List.mem_map.mp hv
    refine ⟨rfl, ?_⟩
    have := hn S c (hl.2.2 c hc)
    simp [this]
    rfl)
  have ty : tyOk .split (tS l) S = true := rfl
  have tt := tisi l S
  have lk : ((TL.spl [47] 0 [] l).map tS).length ≤ 900 := by rw [List.length_map]; exact hl.2.1
  have mk := tlst_mk (l := (TL.spl [47] 0 [] l).map fun c => oIn (rdN c)) (by rw [List.length_map]; have := hl.2.1; omega) S
  rw [List.map_map] at l1
  change _ = Res.ok ([] ++ (TL.spl [47] 0 [] l).map fun c => oIn (rdN c)) S at l1
  have ln := lst_len ((TL.spl [47] 0 [] l).map tS) S
  rw [List.length_map] at ln
  unfold rdR
  rcases par_cases l with ⟨hq, e1, e2⟩ | ⟨p, q, hl', hp, e1, e2⟩
  · rw [e2] at l1 mk sp ln
    rw [e1]
    simp at l1 mk sp ln
    have is := oin_isn (rdN l) S
    have is0 := oin_is (rdN l) S
    have ix := lst_i0 (oIn (rdN l)) [] S
    cases hr : rdN l with
    | none =>
      rw [hr] at l1 mk is is0 ix
      simp at is is0
      simp [runD, L_ratio_in, start0, cmp_eq, cmp_ne, tt, t_sl, ty, sp, items_l, l1, mk, ln, hr, is, ix, oRa]
    | some t =>
      rw [hr] at l1 mk is is0 ix
      simp at is is0
      simp [runD, L_ratio_in, start0, cmp_eq, cmp_ne, tt, t_sl, ty, sp, items_l, l1, mk, ln, hr, is, ix, oRa]
      rfl
  · rw [e1]
    rw [e2] at l1 mk sp ln
    show _ = Res.ok (oRa (match rdN p, rdN q with
      | some t, some b => if 2 ≤ b ∧ Int.gcd t b = 1 then some (t, b) else none
      | _, _ => none)) S
    have hps := hl.2.2
    rw [e2] at hps
    rcases par_cases q with ⟨q0, q1, q2⟩ | ⟨p', q', hl', q0, q1, q2⟩
    · rw [q2] at l1 mk sp ln hps
      simp at l1 mk sp ln
      have is := oin_isn (rdN p) S
      have is0 := oin_is (rdN p) S
      have is1 := oin_is (rdN q) S
      have ix := lst_i0 (oIn (rdN p)) [oIn (rdN q)] S
      have iy := lst_i1 (oIn (rdN p)) (oIn (rdN q)) [] S
      cases hr : rdN p with
      | none =>
        rw [hr] at l1 mk is is0 ix iy
        simp at is is0
        simp [runD, L_ratio_in, start0, cmp_eq, cmp_ne, tt, t_sl, ty, sp, items_l, l1, mk, ln, hr, is, is0, ix, iy, oRa]
      | some t =>
        cases hs : rdN q with
        | none =>
          rw [hr] at l1 mk is is0 ix iy
          rw [hs] at l1 mk is1 ix iy
          simp at is is0 is1
          simp [runD, L_ratio_in, start0, cmp_eq, cmp_ne, tt, t_sl, ty, sp, items_l, l1, mk, ln, hr, is, is0, is1, ix, iy, oRa]
        | some b =>
          rw [hr] at l1 mk is is0 ix iy
          rw [hs] at l1 mk is1 ix iy
          simp at is is0 is1
          simp only [oIn] at l1 mk is is0 is1 ix iy
          have hb := rd_lt9 hs (hps q (by simp))
          have g := hc S t b (by omega)
          have lt : cmpE .lt (.int b) (.int 2) S = some (decide (b < 2)) := rfl
          have ne : cmpE .ne (.int (Int.gcd t b : Nat)) (.int 1) S = some (!decide (((Int.gcd t b : Nat) : Int) = 1)) := rfl
          show runD (om P fu n) ⟨1, 4, L_ratio_in ni co⟩ [tS l] S = .ok (oRa (if 2 ≤ b ∧ Int.gcd t b = 1 then some (t, b) else none)) S
          by_cases h2 : b < 2
          · rw [decide_eq_true h2] at lt
            rw [if_neg (by omega)]
            simp [runD, L_ratio_in, start0, cmp_eq, cmp_ne, tt, t_sl, ty, sp, items_l, l1, mk, ln, is, is0, is1, ix, iy, oIn, lt, oRa]
          · rw [decide_eq_false h2] at lt
            by_cases h3 : Int.gcd t b = 1
            · rw [if_pos ⟨by omega, h3⟩]
              rw [h3] at g ne
              simp at ne
              simp [runD, L_ratio_in, start0, cmp_eq, cmp_ne, tt, t_sl, ty, sp, items_l, l1, mk, ln, is, is0, is1, ix, iy, oIn, lt, g, ne, oRa]
            · rw [if_neg (by omega)]
              rw [decide_eq_false (by omega)] at ne
              simp [runD, L_ratio_in, start0, cmp_eq, cmp_ne, tt, t_sl, ty, sp, items_l, l1, mk, ln, is, is0, is1, ix, iy, oIn, lt, g, ne, oRa]
    · have hq : rdN q = none := by
        cases hz : rdN q with
        | none => rfl
        | some j => exact absurd (show 47 ∈ q by rw [hl']; simp) (rd_free hz)
      have hne := spl_ne q'
      rw [q2] at l1 mk sp ln
      rw [hq]
      have z : (match rdN p, (none : Option Int) with
        | some t, some b => if 2 ≤ b ∧ Int.gcd t b = 1 then some (t, b) else none
        | _, _ => none) = none := by cases rdN p <;> rfl
      rw [z]
      generalize TL.spl [47] 0 [] q' = R at *
      cases R with
      | nil => exact absurd rfl hne
      | cons r R =>
        simp only [List.map_cons, List.nil_append] at l1 mk sp ln
        have c1 : cmpE .eq (.int ((p :: p' :: r :: R).length : Nat)) (.int 1) S = some false := by
          show some (decide _) = _
          rw [decide_eq_false (by simp only [List.length_cons]; omega)]
        have c2 : cmpE .ne (.int ((p :: p' :: r :: R).length : Nat)) (.int 2) S = some true := by
          show some (!decide _) = _
          rw [decide_eq_false (by simp only [List.length_cons]; omega)]
          rfl
        generalize ((p :: p' :: r :: R).length) = K at ln c1 c2
        simp at l1
        simp [runD, L_ratio_in, start0, cmp_eq, cmp_ne, tt, t_sl, ty, sp, items_l, l1, mk, ln, c1, c2, oRa]
  , fun S v hv => by simp [runD, L_ratio_in, start0, hv]⟩
theorem p1400 : 2 ^ 1400 ≤ 10 ^ 600 := by decide
theorem nu_len6 {i : Int} (h : i.natAbs < 2 ^ 1400) : (nuT i).length ≤ 601 := nu_len (k := 600) (by decide) (Nat.lt_of_lt_of_le h p1400)
def cRaText (k : Nat) : Ct := fun f => (∀ (S : Store) (t b : Int), 0 < b → Int.gcd t b = 1 → t.natAbs < 2 ^ 1400 → b.natAbs < 2 ^ 1400 → f [.tup [.int t, .int b]] S = .ok (tS (raT t b)) S) ∧ ∀ (S : Store) (v : Val), Okv S v → isRat v = false → f [v] S = .exc k [v] S
theorem ratio_text_at {i nr k : Nat} (h : P.defs[i]? = some ⟨1, 1, L_ratio_text nr⟩) (hn : At P fu d nr (cNeed isRat k)) : At P fu (d + 1) i (cRaText k) := .mk h fun n hd => ⟨fun S t b hb hg ht hb' => by
  have hv : Okv S (.tup [.int t, .int b]) := ⟨pow_up ht (by decide), pow_up hb' (by decide), trivial⟩
  have e := hn n hd S _ hv
  rw [if_pos (by simp [isRat, hb, hg])] at e
  have s1 := str_nu (S := S) (i := t) (pow_up ht (by decide))
  have s2 := str_nu (S := S) (i := b) (pow_up hb' (by decide))
  have l1 := nu_len6 ht
  have l2 := nu_len6 hb'
  have a1 := add_s (S := S) (a := nuT t) (b := [47]) (by simp; omega)
  have a2 := add_s (S := S) (a := nuT t ++ [47]) (b := nuT b) (by simp; omega)
  refine W.eq ?_
  rw [W_run rfl]
  simp! [L_ratio_text, e, s1, s2, t_sl, a1, a2]
  unfold raT
  by_cases h1 : b = 1 <;> simp [h1], fun S v hv hr => by
  have e := hn n hd S v hv
  rw [hr, if_neg (by decide)] at e
  simp [runD, L_ratio_text, start0, e]⟩
theorem rdue_at {i rd co : Nat} (h : P.defs[i]? = some ⟨1, 6, L_l_rdue rd co⟩) (hr : At P fu d rd cReads) (hc : At P fu d co (cGcd fu)) (hf : 2 ^ 9000 ≤ fu) : At P fu (d + 1) i cRaDue := .mk h fun n hd => ⟨fun S l hl ha => by
  have hrd := hr n hd
  have hc := hc n hd
  have pt := prt_ok (S := S) (l := l) (by omega)
  have ty : tyOk .partition (tS l) S = true := rfl
  have tt := tisi l S
  have e0 := fun a => eq_s (S := S) a []
  unfold rdR
  rcases par_cases l with ⟨hq, e1, e2⟩ | ⟨p, q, hl', hp, e1, e2⟩
  · rw [e1] at pt ⊢
    have r1 := hrd S l hl ha
    have is0 := oin_is (rdN l) S
    cases hz : rdN l with
    | none =>
      rw [hz] at r1 is0
      simp at is0
      simp [runD, L_l_rdue, start0, tt, t_sl, t_e, ty, pt, e0, putT, r1, is0, oRa]
      rfl
    | some t =>
      rw [hz] at r1 is0
      simp at is0
      simp [runD, L_l_rdue, start0, tt, t_sl, t_e, ty, pt, e0, putT, r1, is0, oRa]
      rfl
  · rw [e1] at pt ⊢
    show _ = Res.ok (oRa (match rdN p, rdN q with
      | some t, some b => if 2 ≤ b ∧ Int.gcd t b = 1 then some (t, b) else none
      | _, _ => none)) S
    have hlen : l.length = p.length + (q.length + 1) := by rw [hl']; simp
    have r1 := hrd S p (by omega) (fun c hc => ha c (by rw [hl']; exact List.mem_append_left _ hc))
    have r2 := hrd S q (by omega) (fun c hc => ha c (by rw [hl']; exact List.mem_append_right _ (List.mem_cons_of_mem _ hc)))
    have is0 := oin_is (rdN p) S
    have is1 := oin_is (rdN q) S
    cases hz : rdN p with
    | none =>
      rw [hz] at r1 is0
      simp at is0
      simp [runD, L_l_rdue, start0, tt, t_sl, t_e, ty, pt, e0, putT, r1, r2, is0, oRa]
    | some t =>
      cases hs : rdN q with
      | none =>
        rw [hz] at r1 is0
        rw [hs] at r2 is1
        simp at is0 is1
        simp [runD, L_l_rdue, start0, tt, t_sl, t_e, ty, pt, e0, putT, r1, r2, is0, is1, oRa]
      | some b =>
        rw [hz] at r1 is0
        rw [hs] at r2 is1
        simp at is0 is1
        simp only [oIn] at r1 r2 is0 is1
        have hb := rd_lt9 hs (by omega)
        have g := hc S t b (by omega)
        show runD (om P fu n) ⟨1, 6, L_l_rdue rd co⟩ [tS l] S = .ok (oRa (if 2 ≤ b ∧ Int.gcd t b = 1 then some (t, b) else none)) S
        have lt : cmpE .lt (.int b) (.int 2) S = some (decide (b < 2)) := rfl
        have ne : cmpE .ne (.int (Int.gcd t b : Nat)) (.int 1) S = some (!decide (((Int.gcd t b : Nat) : Int) = 1)) := rfl
        by_cases h2 : b < 2
        · rw [decide_eq_true h2] at lt
          rw [if_neg (by omega)]
          simp [runD, L_l_rdue, start0, tt, t_sl, t_e, ty, pt, e0, putT, r1, r2, is0, is1, oIn, lt, oRa]
        · rw [decide_eq_false h2] at lt
          by_cases h3 : Int.gcd t b = 1
          · rw [if_pos ⟨by omega, h3⟩]
            rw [h3] at g ne
            simp at ne
            simp [runD, L_l_rdue, start0, tt, t_sl, t_e, ty, pt, e0, putT, r1, r2, is0, is1, oIn, lt, g, ne, oRa]
          · rw [if_neg (by omega)]
            rw [decide_eq_false (by omega)] at ne
            simp [runD, L_l_rdue, start0, tt, t_sl, t_e, ty, pt, e0, putT, r1, r2, is0, is1, oIn, lt, g, ne, oRa], fun S v hv => by simp [runD, L_l_rdue, start0, hv]⟩
def cGoodRat : Ct := fun f => ∀ (S : Store) (t b : Int), 0 < b → Int.gcd t b = 1 → b.natAbs < 2 ^ 9000 → f [.tup [.int t, .int b]] S = .ok (.bl true) S
def cSameRat : Ct := fun f => ∀ (S : Store) (t b : Int), 0 < b → Int.gcd t b = 1 → b.natAbs < 2 ^ 9000 → f [.tup [.int t, .int b], .tup [.int t, .int b]] S = .ok (.bl true) S
def twRat : Cs := (.cons (.ife (.or (.not (.isi (.var 1) ["int"])) (.isi (.var 1) ["bool"])) (.cons (.ret (.cst (.bl false)))
      .nil) .nil)
    .nil)
theorem rat_loop {O : Om} {S : Store} (t b : Int) : ∃ o, forF [.tup [.int t, .int b]] [[.int t, .int b]] (.one 1) (fun en S => exS O twRat en S) [.int t, .int b] [some (.tup [.int t, .int b]), none] S = .nx [some (.tup [.int t, .int b]), o] S := by
  obtain ⟨en', S', e, o, e1, e2⟩ := for_inv (cs := [.tup [.int t, .int b]]) (xs := [[.int t, .int b]]) (t := .one 1) (b := fun en S => exS O twRat en S)
    (fun k en S' => ∃ o : Option Val, en = [some (.tup [.int t, .int b]), o] ∧ S' = S) (fun _ _ S _ => live_1 fun _ h => by cases h) [.int t, .int b] 0
    (fun j v en S' hj p => by
      obtain ⟨o, rfl, rfl⟩ := p
      have hv : ∃ i : Int, v = .int i := by
        have := List.mem_of_getElem? hj
        simp at this
        rcases this with h | h <;> exact ⟨_, h⟩
      obtain ⟨i, rfl⟩ := hv
      refine ⟨_, rfl, [some (.tup [.int t, .int b]), some (.int i)], S', ?_, _, rfl, rfl⟩
      simp [twRat, isi_i_int, isi_i_bool]) [some (.tup [.int t, .int b]), none] S ⟨none, rfl, rfl⟩
  subst e1 e2
  exact ⟨o, e⟩
theorem l_is_ratio_at {i co : Nat} (h : P.defs[i]? = some ⟨1, 2, L_l_is_ratio co⟩) (hc : At P fu d co (cGcd fu)) (hf : 2 ^ 9000 ≤ fu) : At P fu (d + 1) i cGoodRat := .mk h fun n hd S t b hb hg hb' => by
  have g := hc n hd S t b (by omega)
  rw [hg] at g
  have gt : cmpE .gt (.int b) (.int 0) S = some true := by
    show some (decide (0 < b)) = _
    rw [decide_eq_true hb]
  obtain ⟨o, lo⟩ := rat_loop (O := om P fu n) (S := S) t b
  unfold twRat at lo
  have ln : bltV .len [.tup [.int t, .int b]] S = .ok (.int 2) S := rfl
  have i0 : idxV (.tup [.int t, .int b]) (.int 0) S = .ok (.int t) S := rfl
  have i1 : idxV (.tup [.int t, .int b]) (.int 1) S = .ok (.int b) S := rfl
  simp at lo
  simp [runD, L_l_is_ratio, start0, isi_t_tup, ln, cmp_ne, items_t, lo, i0, i1, gt, g, cmp_eq]
theorem l_same_at {i ir : Nat} (h : P.defs[i]? = some ⟨2, 2, L_l_same ir⟩) (hi : At P fu d ir cGoodRat) : At P fu (d + 1) i cSameRat := .mk h fun n hd S t b hb hg hb' => by
  have e := hi n hd S t b hb hg hb'
  have q : cmpE .eq (.tup [.int t, .int b]) (.tup [.int t, .int b]) S = some true := eq_pair t b S
  simp [runD, L_l_same, start0, e, q]
end
end GW
set_option exponentiation.threshold 20000
/-! Core 136: ratios as texts, in the law. -/
namespace GW
open PySem PySem.NumText
def sgA : List Nat := [32, 33, 34, 35, 36, 38, 39, 40, 41, 42, 43, 44, 45, 46, 47, 48, 49, 50, 51, 52, 53, 54, 55, 56, 57, 58, 59, 60, 61, 62, 63, 64, 65, 66, 67, 68, 69, 70, 71, 72, 73, 74, 75, 76, 77, 78, 79, 80, 81, 82, 83, 84, 85, 86, 87, 88, 89, 90, 91, 92, 93, 94, 95, 96]
def sgB : List Nat := [97, 98, 99, 100, 101, 102, 103, 104, 105, 106, 107, 108, 109, 110, 111, 112, 113, 114, 115, 116, 117, 118, 119, 120, 121, 122, 123, 124, 125, 126, 10]
theorem t_sA : Val.str " !\"#$&'()*+,-./0123456789:;<=>?@ABCDEFGHIJKLMNOPQRSTUVWXYZ[\\]^_`" = tS sgA := rfl
theorem t_sB : Val.str "abcdefghijklmnopqrstuvwxyz{|}~\n" = tS sgB := rfl
theorem sg_asc : ∀ c ∈ sgA ++ sgB, c < 128 := by decide

def Thr (S : Store) (v : Val) : Prop := (∃ l, v = tS l ∧ l.length ≤ 400 ∧ Asc l) ∨ isiE S v ["str"] = some false
def cRtRight : Ct := fun f => ∀ (S : Store) (v : Val), Thr S v → f [v] S = .ok (.bl true) S
def cSign : Ct := fun f => ∀ (S : Store) (l : Nat) (Q : Val → Store → Prop) (X : Xt), Purse S l → (∀ (c : Nat) (T : Store), c < 128 → Dr l S T → Q (tS [c]) T) → W (f [.ref l] S) Q X
def cBent : Ct := fun f => ∀ (S : Store) (l : Nat) (t : List Nat) (way place : Nat) (Q : Val → Store → Prop) (X : Xt), Purse S l → t.length ≤ 300 → Asc t → (∀ (m : List Nat) (T : Store), m.length ≤ 302 → Asc m → Dr l S T → Q (tS m) T) → W (f [.ref l, tS t, .int way, .int place] S) Q X
theorem p400 : 10 ^ 400 ≤ 2 ^ 1400 := by decide
theorem rdR_lt {l : List Nat} {t b : Int} (h : rdR l = some (t, b)) (hl : l.length ≤ 400) : t.natAbs < 2 ^ 1400 ∧ b.natAbs < 2 ^ 1400 := by
  have up : ∀ {p : List Nat} {i : Int}, rdN p = some i → p.length ≤ 400 → i.natAbs < 2 ^ 1400 := fun h h' =>
    Nat.lt_of_lt_of_le (rd_lt h) (Nat.le_trans (Nat.pow_le_pow_right (by decide) h') p400)
  unfold rdR at h
  rcases par_cases l with ⟨_, e, _⟩ | ⟨p, q, hl', hp, e, _⟩
  · rw [e] at h
    cases hr : rdN l with
    | none => rw [hr] at h; cases h
    | some i =>
      rw [hr] at h
      cases h
      exact ⟨up hr hl, by decide⟩
  · rw [e] at h
    have hlen : l.length = p.length + (q.length + 1) := by rw [hl']; simp
    cases hr : rdN p with
    | none => simp [hr] at h
    | some i =>
      cases hq : rdN q with
      | none => simp [hr, hq] at h
      | some j =>
        simp only [hr, hq] at h
        split at h
        · cases h
          exact ⟨up hr (by omega), up hq (by omega)⟩
        · cases h
section
variable {P : Pg} {fu d : Nat}
theorem rright_at {i ri du sa rt k : Nat} (h : P.defs[i]? = some ⟨1, 3, L_l_rright ri du sa rt⟩) (hri : At P fu d ri cRaIn) (hdu : At P fu d du cRaDue) (hsa : At P fu d sa cSameRat) (hrt : At P fu d rt (cRaText k)) : At P fu (d + 1) i cRtRight := .mk h fun n hd S v hv => by
  rcases hv with ⟨l, rfl, hl, ha⟩ | hv
  · have e1 := (hri n hd).1 S l (.of (by omega))
    have e2 := (hdu n hd).1 S l (by omega) ha
    cases hz : rdR l with
    | none =>
      rw [hz] at e1 e2
      have is : cmpE .is (oRa none) .non S = some true := rfl
      simp [runD, L_l_rright, start0, e1, e2, is]
    | some tb =>
      obtain ⟨t, b⟩ := tb
      rw [hz] at e1 e2
      obtain ⟨hl', hb, hg⟩ := ra_rd hz
      obtain ⟨b1, b2⟩ := rdR_lt hz hl
      have is : cmpE .is (oRa (some (t, b))) .non S = some false := rfl
      have e3 := (hsa n hd) S t b hb hg (pow_up b2 (by decide))
      have e4 := (hrt n hd).1 S t b hb hg b1 b2
      rw [hl'] at e4
      have e5 := eq_s (S := S) l l
      rw [decide_eq_true rfl] at e5
      simp only [oRa] at e1 e2 is
      simp [runD, L_l_rright, start0, e1, e2, is, e3, e4, e5]
  · have e1 := (hri n hd).2 S v hv
    have e2 := (hdu n hd).2 S v hv
    have is : cmpE .is .non .non S = some true := rfl
    simp [runD, L_l_rright, start0, e1, e2, is]
theorem sign_at {i tk : Nat} (h : P.defs[i]? = some ⟨1, 2, L_l_sign tk⟩) (ht : At P fu d tk cTake) : At P fu (d + 1) i cSign := .mk h fun n hd S l Q X p hq => by
  have hL : (sgA ++ sgB).length = 95 := by decide
  obtain ⟨v, S', e, d, rfl, d1, D⟩ := (ht n hd S l 95 (fun v T => ∃ d : Nat, v = .int d ∧ (d : Int) < 95 ∧ Dr l S T) nX p (by decide) (by decide) fun d T h1 h2 => ⟨d, rfl, h1, h2⟩).get
  have hk : d < (sgA ++ sgB).length := by omega
  have hg : (sgA ++ sgB)[d]? = some ((sgA ++ sgB)[d]'hk) := List.getElem?_eq_getElem _
  have hm := List.getElem_mem hk
  generalize (sgA ++ sgB)[d]'hk = c at hg hm
  have ix := idx_sN (S := S') (by omega) hg
  have ad : ∀ S, bopV .add (tS sgA) (tS sgB) S = .ok (tS (sgA ++ sgB)) S := fun S => add_s (by decide)
  have ln : bltV .len [tS (sgA ++ sgB)] S = .ok (.int 95) S := by
    rw [len_s (by omega), hL]
    rfl
  generalize hX : tS (sgA ++ sgB) = X' at *
  refine W.of (a := tS [c]) (S := S') ?_ (hq c S' (sg_asc c hm) D)
  simp [runD, L_l_sign, start0, t_sA, t_sB, ad, ln, e, ix]
theorem bent_at {i sg : Nat} (h : P.defs[i]? = some ⟨4, 5, L_l_bent sg⟩) (hs : At P fu d sg cSign) : At P fu (d + 1) i cBent := .mk h fun n hd S l t way place Q X p ht ha hq => by
  obtain ⟨v, S1, e1, c, rfl, hc, D⟩ := (hs n hd S l (fun v T => ∃ c : Nat, v = tS [c] ∧ c < 128 ∧ Dr l S T) nX p fun c T h1 h2 => ⟨c, rfl, h1, h2⟩).get
  suffices hz : ∃ m S', runD (om P fu n) ⟨4, 5, L_l_bent sg⟩ [.ref l, tS t, .int way, .int place] S = .ok (tS m) S' ∧ m.length ≤ 302 ∧ Asc m ∧ Dr l S S' by
    obtain ⟨m, S', e, h1, h2, h3⟩ := hz
    exact W.of e (hq m S' h1 h2 h3)
  have ln := fun S => len_s (S := S) (l := t) (by omega)
  have nz : ((t.length : Int) + 1) ≠ 0 := by omega
  have hm := fmod_nn (place : Int) (show (0 : Int) < (t.length : Int) + 1 by omega)
  obtain ⟨k, hk⟩ : ∃ k : Nat, (place : Int).fmod ((t.length : Int) + 1) = k := ⟨((place : Int).fmod ((t.length : Int) + 1)).toNat, by omega⟩
  have s1 := fun S => slc_to (S := S) (l := t) k (by omega)
  have s2 := fun S => slc_from (S := S) (l := t) k (by omega)
  have s3 := fun S => slc_from (S := S) (l := t) (k + 1) (by omega)
  have l1 := List.length_take_le k t
  have l2 : (t.drop k).length ≤ t.length := by rw [List.length_drop]; omega
  have l3 : (t.drop (k + 1)).length ≤ t.length := by rw [List.length_drop]; omega
  have l4 : (t.take k).length + (t.drop k).length = t.length := by rw [← List.length_append, List.take_append_drop]
  have l5 : (t.take k).length + (t.drop (k + 1)).length ≤ t.length := by simp; omega
  have a1 := ha.take k
  have a2 := ha.drop k
  have a3 := ha.drop (k + 1)
  have ac : Asc [c] := fun x hx => by
    simp at hx
    omega
  rw [show (((k + 1 : Nat) : Int)) = (k : Int) + 1 by omega] at s3
  obtain ⟨mm, s4, l6, a4⟩ := slc_mid (S := S) (l := t) k (by omega) ha
  generalize t.take k = A at *
  generalize t.drop k = B at *
  generalize t.drop (k + 1) = Cc at *
  have w0 : ∀ S, cmpE .eq (.int (way : Int)) (.int 0) S = some (decide ((way : Int) = 0)) := fun S => cmp_eq _ _ _
  have w1 : ∀ S, cmpE .eq (.int (way : Int)) (.int 1) S = some (decide ((way : Int) = 1)) := fun S => cmp_eq _ _ _
  have w2 : ∀ S, cmpE .eq (.int (way : Int)) (.int 2) S = some (decide ((way : Int) = 2)) := fun S => cmp_eq _ _ _
  generalize decide ((way : Int) = 0) = b0 at w0
  generalize decide ((way : Int) = 1) = b1 at w1
  generalize decide ((way : Int) = 2) = b2 at w2
  cases b0
  · cases b1
    · cases b2
      · refine ⟨A ++ mm ++ B, S, ?_, by simp; omega, (a1.app a4).app a2, Dr.refl p⟩
        simp [runD, L_l_bent, start0, ln, bop_mod_int nz, hk, w0, w1, w2, s1, s4, s2, add_s (show A.length + mm.length ≤ 2000 by omega), add_s (show (A ++ mm).length + B.length ≤ 2000 by simp; omega)]
      · refine ⟨A ++ [c] ++ Cc, S1, ?_, by simp; omega, (a1.app ac).app a3, D⟩
        simp [-List.append_assoc, runD, L_l_bent, start0, ln, bop_mod_int nz, hk, w0, w1, w2, s1, e1, s3, add_s (show A.length + [c].length ≤ 2000 by simp; omega), add_s (show (A ++ [c]).length + Cc.length ≤ 2000 by simp; omega)]
    · refine ⟨A ++ Cc, S, ?_, by simp; omega, a1.app a3, Dr.refl p⟩
      simp [runD, L_l_bent, start0, ln, bop_mod_int nz, hk, w0, w1, s1, s3, add_s (show A.length + Cc.length ≤ 2000 by omega)]
  · refine ⟨A ++ [c] ++ B, S1, ?_, by simp; omega, (a1.app ac).app a2, D⟩
    simp [-List.append_assoc, runD, L_l_bent, start0, ln, bop_mod_int nz, hk, w0, s1, e1, s2, add_s (show A.length + [c].length ≤ 2000 by simp; omega), add_s (show (A ++ [c]).length + B.length ≤ 2000 by simp; omega)]
end
end GW
set_option exponentiation.threshold 20000
/-! Core 137: what is no ratio, told back; great ratios as texts. -/
namespace GW
open PySem PySem.NumText
def cTRefused : Ct := fun f => ∀ (S : Store) (v : Val), Odd S v → isRat v = false → isLst v = false → f [v] S = .ok (.bl true) S
section
variable {P : Pg} {fu d : Nat}
theorem sh_one {S : Store} {v : Val} (h : Sh S 11 7000 v) : ∃ z, bltV .repr [.lst [v]] S = .ok (.str z) S :=
  repr_of (w := 7000 + 1 + 0) (sh_lst (shs_cons h shs_nil)) (by decide)
theorem trefused_at {i rt : Nat} (h : P.defs[i]? = some ⟨1, 4, L_l_trefused rt⟩) (hs : P.sub 1 1 = true) (hk : 1 < P.nc) (hrt : At P fu d rt (cRaText 1)) : At P fu (d + 1) i cTRefused := .mk h fun n hd S v hv hr hl => by
  have e := (hrt n hd).2 S v hv.ok hr
  have du := hv.due hl
  obtain ⟨z, ez⟩ := sh_one du.sh
  have is : ∀ S, cmpE .is (.lst [v]) .non S = some false := fun _ => rfl
  have mk : ∀ S, mkL false [v] S = .ok (.lst [v]) S := fun _ => mkL_f (sz_le (by simp))
  have s' : (om P fu n).sub 1 1 = true := hs
  have ee : cmpE .ne (.str z) (.str z) S = some false := str_ne z S
  rcases du.ls with e1 | ⟨m, zs, rfl, e1, hz, hsh⟩
  · simp [runD, L_l_trefused, start0, e, s', Fl.out, mk, hk, hs, is, ez, ee, e1]
  · have hm := (List.getElem?_eq_some_iff.mp e1).1
    obtain ⟨z2, ez2⟩ := sh_one hsh
    have e2 : (S.set m (.lst (zs ++ [more])))[m]? = some (.lst (zs ++ [more])) := List.getElem?_set_self hm
    have e3 : cmpE .eq (.str z2) (.str z2) (S.set m (.lst (zs ++ [more]))) = some true := str_eq z2 _
    have i1 := isi_ref e1
    have t1 := tyOk_ref e1 .append rfl
    have a1 : mthV .append (.ref m) [.str "more"] S = .ok .non (S.set m (.lst (zs ++ [more]))) := mth_append e1 (by omega) more
    have t2 := tyOk_ref e2 .pop rfl
    have a2 := mth_pop e2
    rw [set_back e1] at a2
    simp [runD, L_l_trefused, start0, e, s', Fl.out, mk, hk, hs, is, ez, ee, i1, t1, a1, ez2, e3, t2, a2]
end
theorem p1450 : 2 ^ 1400 ≤ 10 ^ 500 := by decide
theorem nu_len5 {i : Int} (h : i.natAbs < 2 ^ 1400) : (nuT i).length ≤ 501 := nu_len (k := 500) (by decide) (Nat.lt_of_lt_of_le h p1450)
theorem mul_s {l : List Nat} {S : Store} (b : Bool) (h : l.length ≤ 10000) : bopV .mul (tS l) (.int (if b = true then 1 else 0)) S = .ok (tS (if b = true then l else [])) S := by
  cases b
  · show (if (0 : Int) ≤ 0 ∧ (0 : Int) ≤ 100 ∧ (⟨⟨l⟩⟩ : Str).length ≤ 10000 then Res.ok (Val.str (Txt.mul ⟨⟨l⟩⟩ 0)) S else .stk) = _
    rw [if_pos ⟨by decide, by decide, h⟩]
    rfl
  · show (if (0 : Int) ≤ 1 ∧ (1 : Int) ≤ 100 ∧ (⟨⟨l⟩⟩ : Str).length ≤ 10000 then Res.ok (Val.str (Txt.mul ⟨⟨l⟩⟩ 1)) S else .stk) = _
    rw [if_pos ⟨by decide, by decide, h⟩]
    rfl
theorem ra_due {x y : Int} (hy : 0 < y) : nuT x ++ (if decide (1 < y) = true then 47 :: nuT y else []) = raT x y := by
  unfold raT
  by_cases h : y = 1
  · subst h
    simp
  · rw [if_neg h, if_pos (by simp; omega)]
theorem spl_nu (x : Int) (r : List Nat) : TL.spl [47] 0 [] (nuT x ++ 47 :: r) = nuT x :: TL.spl [47] 0 [] r := TL.spl_part1 (S := []) (acc := []) (nu_free x)
theorem spl_nu1 (x : Int) : TL.spl [47] 0 [] (nuT x) = [nuT x] := TL.spl_last1 (nu_free x)
theorem Pcs.ra {x y : Int} (hx : x.natAbs < 2 ^ 1400) (hy : y.natAbs < 2 ^ 1400) : Pcs (raT x y) ∧ Pcs (raT x y ++ [47]) := by
  have l1 := nu_len5 hx
  have l2 := nu_len5 hy
  have e0 : TL.spl [47] 0 [] [] = [[]] := rfl
  unfold raT
  split
  · constructor
    · refine ⟨by omega, ?_⟩
      rw [spl_nu1]
      exact ⟨by simp, fun p hp => by rw [List.mem_singleton.mp hp]; omega⟩
    · refine ⟨by simp; omega, ?_⟩
      rw [spl_nu, e0]
      refine ⟨by simp, fun p hp => ?_⟩
      simp at hp
      rcases hp with rfl | rfl
      · omega
      · decide
  · constructor
    · refine ⟨by simp; omega, ?_⟩
      rw [spl_nu, spl_nu1]
      refine ⟨by simp, fun p hp => ?_⟩
      simp at hp
      rcases hp with rfl | rfl <;> omega
    · refine ⟨by simp; omega, ?_⟩
      rw [List.append_assoc, List.cons_append, spl_nu, spl_nu, e0]
      refine ⟨by simp, fun p hp => ?_⟩
      simp at hp
      rcases hp with rfl | rfl | rfl
      · omega
      · omega
      · decide
theorem rd_stroke (x y : Int) : rdR (raT x y ++ [47]) = none := by
  unfold raT
  by_cases h : y = 1
  · rw [if_pos h]
    unfold rdR
    rw [ra_some]
    show (match rdN (nuT x), rdN [] with
      | some t, some b => if 2 ≤ b ∧ Int.gcd t b = 1 then some (t, b) else none
      | _, _ => none) = _
    rw [rd_nu]
    rfl
  · rw [if_neg h, List.append_assoc, List.cons_append]
    unfold rdR
    rw [ra_some]
    have z : rdN (nuT y ++ [47]) = none := by
      cases hz : rdN (nuT y ++ [47]) with
      | none => rfl
      | some j => exact absurd (show 47 ∈ nuT y ++ [47] by simp) (rd_free hz)
    show (match rdN (nuT x), rdN (nuT y ++ [47]) with
      | some t, some b => if 2 ≤ b ∧ Int.gcd t b = 1 then some (t, b) else none
      | _, _ => none) = _
    rw [rd_nu, z]
def cPTrue : Ct := fun f => ∀ (S : Store) (l : Nat) (Q : Val → Store → Prop) (X : Xt), Purse S l → (∀ T, Dr l S T → Q (.bl true) T) → W (f [.ref l] S) Q X
section
variable {P : Pg} {fu d : Nat}
theorem great_right_at {i lo gr rt sa ri k : Nat} (h : P.defs[i]? = some ⟨1, 4, L_l_great_right lo gr rt sa ri⟩) (hlo : At P fu d lo cLow) (hgr : At P fu d gr cGreat) (hrt : At P fu d rt (cRaText k)) (hsa : At P fu d sa cSameRat) (hri : At P fu d ri cRaIn) : At P fu (d + 1) i cPTrue := .mk h fun n hd S l Q X p hq => by
  rw [W_run rfl]
  simp! [L_l_great_right]
  refine hgr n hd S l _ _ p fun a T ha ha0 D => ?_
  simp! [GW.W_ok]
  refine hgr n hd T l _ _ D.pu fun b U hb hb0 D2 => ?_
  have hb0' : ((b.natAbs : Nat) : Int) ≠ 0 := by omega
  have hbb : ((b.natAbs : Nat) : Int).natAbs = b.natAbs := by omega
  obtain ⟨x, y, ev, _, _, r, xle, yle⟩ := low_parts a hb0'
  have e1 := hlo n hd U a ((b.natAbs : Nat) : Int) hb0' (by rw [hbb]; exact pow_up hb (by decide))
  rw [ev] at e1
  have hx : x.natAbs < 2 ^ 1400 := by omega
  have hy : y.natAbs < 2 ^ 1400 := by omega
  have e2 := (hrt n hd).1 U x y r.pos r.low hx hy
  have s1 := str_nu (S := U) (i := x) (pow_up hx (by decide))
  have s2 := str_nu (S := U) (i := y) (pow_up hy (by decide))
  have l1 := nu_len5 hx
  have l2 := nu_len5 hy
  have a1 : bopV .add (tS [47]) (tS (nuT y)) U = .ok (tS (47 :: nuT y)) U := add_s (by simp; omega)
  have m1 := mul_s (S := U) (l := 47 :: nuT y) (decide (1 < y)) (by simp; omega)
  have a2 := add_s (S := U) (a := nuT x) (b := if decide (1 < y) = true then 47 :: nuT y else []) (by split <;> simp <;> omega)
  rw [ra_due r.pos] at a2
  have q1 := eq_s (S := U) (raT x y) (raT x y)
  rw [decide_eq_true rfl] at q1
  obtain ⟨pc1, pc2⟩ := Pcs.ra hx hy
  have e3 := (hri n hd).1 U _ pc1
  rw [rd_ra r.pos r.low] at e3
  have e4 := hsa n hd U x y r.pos r.low (pow_up hy (by decide))
  have a3 := add_s (S := U) (a := raT x y) (b := [47]) (by have := pc1.1; simp; omega)
  have e5 := (hri n hd).1 U _ pc2
  rw [rd_stroke] at e5
  have is : cmpE .is (oRa none) .non U = some true := rfl
  have gt : cmpE .gt (.int y) (.int 1) U = some (decide (1 < y)) := rfl
  simp only [oRa] at e3 e5 is
  generalize raT x y = R at *
  generalize decide (1 < y) = B at *
  simp! [e1, e2, s1, s2, t_sl, a1, gt, m1, a2, q1, e3, e4, a3, e5, is]
  exact hq U (D.trans D2)
end
end GW
set_option exponentiation.threshold 20000
namespace K03
open PySem GW
section
variable {fu : Nat}
theorem s_is_number (hf : 2 ^ 9000 ≤ fu) : At Pr fu 1 0 cNum := isnum_at rfl
theorem s_are_figures (hf : 2 ^ 9000 ≤ fu) : At Pr fu 1 1 cFigs := figures_at rfl
theorem s_number_in (hf : 2 ^ 9000 ≤ fu) : At Pr fu 2 2 cNumIn := number_in_at rfl ((s_are_figures hf).up (by decide))
theorem s_common_part (hf : 2 ^ 9000 ≤ fu) : At Pr fu 1 3 (cGcd fu) := part_at rfl
theorem s_is_ratio (hf : 2 ^ 9000 ≤ fu) : At Pr fu 2 4 cIsRat := israt_at rfl ((s_is_number hf).up (by decide)) ((s_common_part hf).up (by decide)) hf
theorem s_need_ratio (hf : 2 ^ 9000 ≤ fu) : At Pr fu 3 5 (cNeed isRat 1) := need_at (t := isRat) (c := 1) rfl ((s_is_ratio hf).up (by decide))
theorem s_ratio_text (hf : 2 ^ 9000 ≤ fu) : At Pr fu 4 6 (cRaText 1) := ratio_text_at rfl ((s_need_ratio hf).up (by decide))
theorem s_ratio_in (hf : 2 ^ 9000 ≤ fu) : At Pr fu 3 7 cRaIn := ratio_in_at rfl ((s_number_in hf).up (by decide)) ((s_common_part hf).up (by decide)) hf
theorem s_law_cell (hf : 2 ^ 9000 ≤ fu) : At Pr fu 1 8 cCell := cell_at rfl
theorem s_law_purse (hf : 2 ^ 9000 ≤ fu) : At Pr fu 1 9 cPurse := purse_at rfl
theorem s_law_take (hf : 2 ^ 9000 ≤ fu) : At Pr fu 1 10 cTake := take_at rfl
theorem s_law_sign (hf : 2 ^ 9000 ≤ fu) : At Pr fu 2 11 cSign := sign_at rfl ((s_law_take hf).up (by decide))
theorem s_law_bent (hf : 2 ^ 9000 ≤ fu) : At Pr fu 3 12 cBent := bent_at rfl ((s_law_sign hf).up (by decide))
theorem s_law_number (hf : 2 ^ 9000 ≤ fu) : At Pr fu 2 13 cNumber := number_at rfl rfl (Nat.le_refl 1)
theorem s_law_common (hf : 2 ^ 9000 ≤ fu) : At Pr fu 1 14 (cGcd fu) := common_at rfl
theorem s_law_low (hf : 2 ^ 9000 ≤ fu) : At Pr fu 2 15 cLow := low_at rfl hf ((s_law_common hf).up (by decide))
theorem s_law_ratio (hf : 2 ^ 9000 ≤ fu) : At Pr fu 3 16 cRatio := ratio_at rfl ((s_law_number hf).up (by decide)) ((s_law_low hf).up (by decide)) ((s_law_take hf).up (by decide))
theorem s_law_is_ratio (hf : 2 ^ 9000 ≤ fu) : At Pr fu 2 17 cGoodRat := l_is_ratio_at rfl ((s_law_common hf).up (by decide)) hf
theorem s_law_same (hf : 2 ^ 9000 ≤ fu) : At Pr fu 3 18 cSameRat := l_same_at rfl ((s_law_is_ratio hf).up (by decide))
theorem s_law_no_ratio (hf : 2 ^ 9000 ≤ fu) : At Pr fu 2 19 (cNoRatio true) := no_ratio_at (b1 := true) (b2 := true) rfl ((s_law_take hf).up (by decide))
theorem s_law_reads (hf : 2 ^ 9000 ≤ fu) : At Pr fu 1 20 cReads := reads_at rfl
theorem s_law_due (hf : 2 ^ 9000 ≤ fu) : At Pr fu 2 21 cRaDue := rdue_at rfl ((s_law_reads hf).up (by decide)) ((s_law_common hf).up (by decide)) hf
theorem s_law_right (hf : 2 ^ 9000 ≤ fu) : At Pr fu 5 22 cRtRight := rright_at rfl ((s_ratio_in hf).up (by decide)) ((s_law_due hf).up (by decide)) ((s_law_same hf).up (by decide)) ((s_ratio_text hf).up (by decide))
theorem s_law_refused (hf : 2 ^ 9000 ≤ fu) : At Pr fu 5 23 cTRefused := trefused_at rfl (by decide) (by decide) ((s_ratio_text hf).up (by decide))
theorem s_law_great (hf : 2 ^ 9000 ≤ fu) : At Pr fu 2 24 cGreat := great_at rfl ((s_law_take hf).up (by decide))
theorem s_law_great_right (hf : 2 ^ 9000 ≤ fu) : At Pr fu 5 25 cPTrue := great_right_at rfl ((s_law_low hf).up (by decide)) ((s_law_great hf).up (by decide)) ((s_ratio_text hf).up (by decide)) ((s_law_same hf).up (by decide)) ((s_ratio_in hf).up (by decide))
end
end K03
set_option exponentiation.threshold 20000
namespace K03
open PySem GW PySem.NumText
theorem W_addS {a b : List Nat} {S : Store} {Q : Val → Store → Prop} {X : Xt} : W (bopV .add (tS a) (tS b) S) Q X = (a.length + b.length ≤ 16777216 ∧ Q (tS (a ++ b)) S) := by
  have hz : sizeLine = 16777216 := by decide
  show W (lim ((⟨⟨a⟩⟩ : Str).length + (⟨⟨b⟩⟩ : Str).length) (.str ((⟨⟨a⟩⟩ : Str) ++ ⟨⟨b⟩⟩)) S) Q X = _
  have e : (Val.str ((⟨⟨a⟩⟩ : Str) ++ ⟨⟨b⟩⟩)) = tS (a ++ b) := by
    show Val.str ⟨⟨a⟩ ++ ⟨b⟩⟩ = _
    simp [tS]
  rw [e]
  unfold lim
  rw [hz]
  show W (if a.length + b.length ≤ 16777216 then _ else _) Q X = _
  by_cases h : a.length + b.length ≤ 16777216 <;> simp [h, W, W']
theorem right_lc {O : Om} {rg : Nat} (hr : cRtRight (O.call rg)) {en : Enm} {S : Store} {cs : List Val} {xs : List (List Val)} {L : List Val} (hen : 13 < en.length) (hl : live S cs xs) (hL : ∀ v ∈ L, Thr S v) : lcF cs xs (.one 13) (fun en' S' => evC O (.cons (.not (.call rg (.cons (.var 13) .nil))) .nil) en' S') (fun en' S' => evE O (.var 13) en' S') en L [] S = .ok [] S :=
  lc_none hl fun v hv => by
    have e : getS (en.set 13 (some v)) 13 S = .ok v S := get_s _ _ (List.getElem?_set_self hen)
    have := hr S v (hL v hv)
    simp [e, this]
def Fr (ns : List Int) (en : Enm) : Prop := ∃ a1 a2 a3 a4 a5 a6 a7 a8 a9 a10 a11 a12 a13, en = [some (.scr (ns.map Val.int)), a1, a2, a3, a4, a5, a6, a7, a8, a9, a10, a11, a12, a13]
theorem z1 : Val.str "/1" = tS [47, 49] := rfl
theorem z0 : Val.str "/0" = tS [47, 48] := rfl
theorem zm : Val.str "/-" = tS [47, 45] := rfl
theorem y0 : Val.str "0/" = tS [48, 47] := rfl
theorem ym : Val.str "-0/" = tS [45, 48, 47] := rfl
theorem zp : Val.str "+" = tS [43] := rfl
theorem zs : Val.str " " = tS [32] := rfl
theorem zs2 : Val.str " /" = tS [32, 47] := rfl
theorem zn : Val.str "\n" = tS [10] := rfl
theorem thr_s {S : Store} {l : List Nat} (h : l.length ≤ 400) (ha : Asc l) : Thr S (tS l) := .inl ⟨l, rfl, h, ha⟩
theorem asc_lit {l : List Nat} (h : l.all (fun c => decide (c < 128)) = true) : Asc l := fun c hc => of_decide_eq_true (List.all_eq_true.mp h c hc)
theorem asc_cons {c : Nat} {l : List Nat} (h : c < 128) (ha : Asc l) : Asc (c :: l) := fun d hd => by
  rcases List.mem_cons.mp hd with rfl | hd
  · exact h
  · exact ha d hd
theorem plain0 (xs : List Int) {fu : Nat} (hf : 2 ^ 9000 ≤ fu) : W (callN Pr fu 14 26 [.scr (xs.map Val.int)] []) (fun v _ => v = .bl true) nX := by
  rw [call_eq (d := ⟨1, 14, b_law⟩) rfl, W_run rfl]
  obtain ⟨m, hm, hm2⟩ := turns_nat 20 xs.length (by decide)
  change max 2 (min (20 : Int) _) = _ at hm
  simp! [b_law, List.length_map, hm, W_rng hm2]
  refine WF_for (fun k en T => Fr xs en) ⟨_, _, _, _, _, _, _, _, _, _, _, _, _, rfl⟩ (fun _ _ _ _ => live_nil _) ?_ ?_
  · rintro j v en T hj ⟨a1, a2, a3, a4, a5, a6, a7, a8, a9, a10, a11, a12, a13, rfl⟩
    obtain ⟨rfl, _⟩ := rngL_at hj
    refine ⟨_, rfl, ?_⟩
    obtain ⟨c, ec⟩ := s_law_cell hf 13 (by decide) T xs j
    simp_all! [ec]
    refine s_law_purse hf 13 (by decide) T c _ _ fun l T1 p1 _ => ?_
    simp_all! [GW.W_ok]
    refine s_law_take hf 13 (by decide) T1 l 12 _ _ p1 (by decide) (by decide) fun way T2 hway D2 => ?_
    simp_all! [GW.W_ok]
    refine s_law_take hf 13 (by decide) T2 l 64 _ _ D2.pu (by decide) (by decide) fun place T3 hplace D3 => ?_
    refine WF_cut (fun en T => Purse T l ∧ en = [some (.scr (xs.map Val.int)), some (.int j), some (.ref l), some (.int way), some (.int place), a5, a6, a7, a8, a9, a10, a11, a12, a13]) ?_ ?_
    · simp! [GW.W_ok]
      refine s_law_take hf 13 (by decide) T3 l 8 _ _ D3.pu (by decide) (by decide) fun w T4 hw D4 => ?_
      simp! [GW.W_ok]
      split
      · simp! [GW.W_ok]
        refine s_law_great_right hf 13 (by decide) T4 l _ _ D4.pu fun T5 D5 => ?_
        simp! [GW.W_ok]
        exact D5.pu
      · simp! [GW.W_ok]
        exact D4.pu
    · rintro en U ⟨pU, rfl⟩
      simp_all! [GW.W_ok]
      refine s_law_ratio hf 13 (by decide) U l _ _ pU fun x y U1 rr hx hy D5 => ?_
      simp_all! [GW.W_ok]
      refine s_law_no_ratio hf 13 (by decide) U1 l x y _ _ D5.pu rr (pow_up hx (by decide)) (pow_up hy (by decide)) fun odd U2 D6 oo ro lo => ?_
      have ex : ∀ en : Enm, putT (.tup [11, 12]) (.tup [.int x, .int y]) en = some ((en.set 11 (some (.int x))).set 12 (some (.int y))) := fun _ => rfl
      have hx4 : x.natAbs < 2 ^ 1400 := pow_up hx (by decide)
      have hy4 : y.natAbs < 2 ^ 1400 := pow_up hy (by decide)
      have s1 := fun S => str_nu (S := S) (i := x) (pow_up hx (by decide))
      have s2 := fun S => str_nu (S := S) (i := y) (pow_up hy (by decide))
      have l1 := nu_len (i := x) (k := 34) (by decide) (Nat.lt_trans hx (by decide))
      have l2 := nu_len (i := y) (k := 34) (by decide) (Nat.lt_trans hy (by decide))
      have a1' : ∀ S, bopV .add (tS [47]) (tS (nuT y)) S = .ok (tS (47 :: nuT y)) S := fun S => add_s (by simp; omega)
      have m1 := fun S => mul_s (S := S) (l := 47 :: nuT y) (decide (1 < y)) (by simp; omega)
      have a2' := fun S => add_s (S := S) (a := nuT x) (b := if decide (1 < y) = true then 47 :: nuT y else []) (by split <;> simp <;> omega)
      rw [ra_due rr.pos] at a2'
      have gt : ∀ S, cmpE .gt (.int y) (.int 1) S = some (decide (1 < y)) := fun _ => rfl
      have lR := ra_len (t := x) (b := y) (k := 34) (m := 34) (by decide) (by decide) (Nat.lt_trans hx (by decide)) (Nat.lt_trans hy (by decide))
      have aR := ra_asc x y
      have e2 := fun S => (s_ratio_text hf 13 (by decide)).1 S x y rr.pos rr.low hx4 hy4
      have q1 := fun S => ne_s (S := S) (raT x y) (raT x y)
      simp only [decide_true, Bool.not_true] at q1
      have e3 := s_law_refused hf 13 (by decide) U2 odd oo ro (lo rfl)
      generalize raT x y = R at *
      generalize decide (1 < y) = B at *
      simp_all! [putT, List.zip_cons_cons, List.zip_nil_right, List.foldl_cons, List.foldl_nil, s1, s2, t_sl, a1', gt, m1, a2']
      refine WF_cut (fun en T => T = U2 ∧ en = [some (.scr (xs.map Val.int)), some (.int j), some (.ref l), some (.int way), some (.int place), some (.tup [.int x, .int y]), some odd, some (tS R), a8, a9, a10, some (.int x), some (.int y), a13]) (by simp! [e2, q1, e3]) ?_
      rintro _ _ ⟨rfl, rfl⟩
      simp_all! [GW.W_ok]
      refine WF_cut (fun en T => ∃ m : List Nat, m.length ≤ 302 ∧ Asc m ∧ en = [some (.scr (xs.map Val.int)), some (.int j), some (.ref l), some (.int way), some (.int place), some (.tup [.int x, .int y]), some odd, some (tS R), some (tS m), a9, a10, some (.int x), some (.int y), a13]) ?_ ?_
      · simp! [GW.W_ok]
        split
        · have dv : divOk (way : Int) 2 = true := divOk_b (by decide) (Nat.lt_of_lt_of_le (show (2 : Int).natAbs < 2 ^ 64 by decide) (Nat.pow_le_pow_right (by decide) (by decide)))
          have hfm := fmod_nn ((way : Int).fdiv 2) (show (0 : Int) < 4 by decide)
          obtain ⟨wy, hwy⟩ : ∃ n : Nat, ((way : Int).fdiv 2).fmod 4 = n := ⟨(((way : Int).fdiv 2).fmod 4).toNat, by omega⟩
          simp! [dv, hwy]
          refine ⟨by decide, ?_⟩
          refine s_law_bent hf 13 (by decide) _ l R wy place _ _ (D5.trans D6).pu (by omega) aR fun m U3 hm am D7 => ?_
          simp! [GW.W_ok]
          exact ⟨m, hm, am, rfl⟩
        · simp! [GW.W_ok]
          exact ⟨R, by omega, aR, rfl⟩
      · rintro en V ⟨t, ht, at', rfl⟩
        have s3 := fun S => str_nu (S := S) (i := 2 * x) (by have : (2 : Nat) ^ 110 * 2 ≤ 2 ^ 1900 := by decide
                                                             omega)
        have s4 := fun S => str_nu (S := S) (i := 2 * y) (by have : (2 : Nat) ^ 110 * 2 ≤ 2 ^ 1900 := by decide
                                                             omega)
        have s5 := fun S => str_nu (S := S) (i := 2 + (place : Int)) (by have : 100 ≤ 2 ^ 1900 := by decide
                                                                         omega)
        have m2 : ∀ x, mulOk 2 x = true := fun x => mulOk_l (by decide)
        simp! [s1, s2, s3, s4, s5, m2, W_addS, t_sl, z1, z0, zm, y0, ym, zp, zs, zs2, zn, t_0, t_m, t_e, List.length_append]
        have l3 := nu_len (i := 2 * x) (k := 34) (by decide) (by have : (2 : Nat) ^ 110 * 2 ≤ 10 ^ 34 := by decide
                                                                 omega)
        have l4 := nu_len (i := 2 * y) (k := 34) (by decide) (by have : (2 : Nat) ^ 110 * 2 ≤ 10 ^ 34 := by decide
                                                                 omega)
        have l5 := nu_len (i := 2 + (place : Int)) (k := 2) (by decide) (by omega)
        have n1 := nu_asc x
        have n2 := nu_asc (2 * x)
        have n3 := nu_asc (2 * y)
        have n4 := nu_asc (2 + (place : Int))
        generalize nuT x = N1 at *
        generalize nuT (2 * x) = N2 at *
        generalize nuT (2 * y) = N3 at *
        generalize nuT (2 + (place : Int)) = N4 at *
        repeat refine And.intro (by omega) ?_
        refine W.of (right_lc (rg := 22) (O := om Pr fu 13) (s_law_right hf 13 (by decide)) (by simp) (live_l _ _ _) ?_) ?_
        · intro v hv
          simp only [List.mem_cons, List.not_mem_nil, or_false] at hv
          rcases hv with rfl | rfl | rfl | rfl | rfl | rfl | rfl | rfl | rfl | rfl | rfl | rfl | rfl | rfl | rfl | rfl | rfl | rfl | rfl | rfl | rfl | rfl | rfl | rfl | rfl | rfl | rfl | rfl | rfl | rfl | rfl
          all_goals first
            | exact .inr rfl
            | (refine thr_s (by (try simp only [List.length_append, List.length_cons, List.length_nil]); omega) ?_
               repeat' first | assumption | exact asc_lit (by decide) | refine Asc.app ?_ ?_ | refine asc_cons (by decide) ?_)
        · simp! [nil_ne]
          exact ⟨_, _, _, _, _, _, _, _, _, _, _, _, _, rfl⟩
  · rintro en T ⟨a1, a2, a3, a4, a5, a6, a7, a8, a9, a10, a11, a12, a13, rfl⟩
    simp! [GW.W_ok]
theorem plain (xs : List Int) (hn : xs.length ≤ 63) : ∃ fu S, callN Pr fu 14 26 [.scr (xs.map .int)] [] = .ok (.bl true) S := by
  obtain ⟨v, S, e, rfl⟩ := (plain0 xs (Nat.le_refl (2 ^ 9000))).get
  exact ⟨_, S, e⟩
end K03
theorem PySem.Challenge.cw_guesswalk_k03_ratio_texts_holds : PySem.Challenge.rw_guesswalk_k03_ratio_texts.Holds :=
  K03.early K03.plain

