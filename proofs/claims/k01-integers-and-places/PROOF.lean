import PyProof.Rows.All
import Wide.All
import OpenK.AllK
import Wide.FinOn
import HandS.ForMost
import HandS.ForExc
import HandS.HeadHook1
import HandS.Lambda
import HandS.TupAny
import HandS.TupMul
import HandS.Wide
import HandS.WideBits
import HandS.Defaults
import KE.GoesNew
import KE.GoesZip
import KE.GoesMore
import KE.GoesEnum
import HandS.Deep
import HandS.Conv
import HandS.IsInst
import HandS.RevTup
import HandS.Style
import HandS.RaiseMore
import HandS.ExcIs
import HandS.ExcField
import KE.KExcHand
import HandS.SortInts
import HandS.SetFor
import HandS.StrMore
import PyProof.ReprRoads
import KE.KExcIs
import PyProof.EqAt
import HandS.ExcInit
import HandS.ExcOwn
import KE.KExcInit
import PyProof.ExcBaseAll.RuntimeError
import HandS.EndTab
import HandS.HeadHook4
import KE.KNestM
import KE.KStateDown
import HandS.Head0
import HandS.Head1
import HandS.Head2
import HandS.HeadEnd
import PySem.Challenge.RW_stonewalk_k01_integers_and_places
set_option Elab.async false
set_option linter.all false
set_option maxRecDepth 100000
set_option maxHeartbeats 2000000
section
set_option maxHeartbeats 2000000
namespace Mn
open PySem PySem.Spec PyProof.Rows L2

/-! ### values and objects of the small world -/
inductive M where
  | non
  | bl (b : Bool)
  | int (i : Int)
  | str (s : Str)
  | tup (xs : List M)
  | ref (n : Nat)
  | glo (x : Str)
  | exc (C : Str) (ks : List Str) (vs : List M)
  | ty (n : String)
  /-- a lambda: its object, its code, its name, the maker's slots (those told by bs hold ms) -/
  | lam (a c : Addr) (q : Str) (σ : L2.St) (bs : List Bool) (ms : List M)
inductive O where
  | lst (xs : List M)
  | rol (xs : List M)
  | dct (kvs : List (M × M))
  | ins (C : Str) (ks : List Str) (vs : List M)
  /-- a table of code objects -/
  | tab (P : Addr) (q : Str)
abbrev MH := List O
abbrev MS := List (Option M)

/-! ### what stays -/
def Stb : HO → Prop
  | .tup _ => True
  | .frz _ _ => True
  | .xd _ => True
  | .ext _ => True
  | _ => False
def Ext (H H' : Hp) : Prop := ∀ b o, H b = some o → Stb o → H' b = some o
theorem Ext.refl (H : Hp) : Ext H H := fun _ _ h _ => h
theorem Ext.trans {H H1 H2 : Hp} (a : Ext H H1) (b : Ext H1 H2) : Ext H H2 := fun c o h s => b c o (a c o h s) s
theorem Ext.new {H : Hp} {p : Addr} {o : HO} (h : H p = none) : Ext H (upd H p o) := fun b u e _ => by
  rw [upd_ne (ne_of_none e h)]; exact e
theorem Ext.put {H : Hp} {p : Addr} {o u : HO} (h : H p = some u) (n : ¬ Stb u) : Ext H (upd H p o) := fun b w e s => by
  rw [upd_ne]; exact e
  rintro rfl
  rw [h] at e; cases e; exact n s

def ExO (a : Addr) (cls : Value) (d : Option Addr) : HO := .ext fun h => ∃ oe vs, h.get? a = some oe ∧ oe.cls = cls ∧ oe.dict = d ∧ oe.data = .fields vs

/-! ### a value of the small world stands for one of the layer's -/
mutual
def RV (K : PySem.W.Frag) (f : List Addr) (H : Hp) : M → V → Prop
  | .non, v => v = .non
  | .bl b, v => v = .bl b
  | .int i, v => v = .int i
  | .str s, v => v = .str s
  | .tup xs, v => ∃ a vs, v = .ref a ∧ SqT K H a vs ∧ RVs K f H xs vs
  | .ref n, v => ∃ a, v = .ref a ∧ f[n]? = some a
  | .glo x, v => v = .ref (He.ga K x)
  | .exc C ks vs, v => ∃ a d us, v = .ref a ∧ H a = some (ExO a (.ref (He.ga K C)) (some d)) ∧ H d = some (.xd (ks.zip us)) ∧ us.length = ks.length ∧ RVs K f H vs us
  | .ty n, v => v = .ty n
  | .lam a c q σ bs ms, v => v = .ref a ∧ H c = some (LamX.CodeO c q) ∧ ∃ vs, RVs K f H ms vs ∧ vs.length = σ.length ∧ ∀ (i : Nat) u, bs[i]? = some true → vs[i]? = some u → σ[i]? = some (some u)
def RVs (K : PySem.W.Frag) (f : List Addr) (H : Hp) : List M → List V → Prop
  | [], vs => vs = []
  | x :: xs, vs => ∃ v r, vs = v :: r ∧ RV K f H x v ∧ RVs K f H xs r
end
section
variable {K : PySem.W.Frag} {f f' : List Addr} {H H' : Hp}
theorem SqT.ext {a : Addr} {vs : List V} (h : SqT K H a vs) (e : Ext H H') : SqT K H' a vs := by
  rcases h with (h | ⟨o, h⟩) | h
  · exact .inl (.inl (e _ _ h trivial))
  · exact .inl (.inr ⟨o, e _ _ h trivial⟩)
  · exact .inr h
theorem get_pre {α : Type} {l l' : List α} {n : Nat} {a : α} (p : l <+: l') (h : l[n]? = some a) : l'[n]? = some a := by
  obtain ⟨r, rfl⟩ := p
  rw [List.getElem?_append_left]
  · exact h
  · exact (List.getElem?_eq_some_iff.mp h).1
mutual
theorem RV.mono : ∀ {m : M} {v : V}, RV K f H m v → f <+: f' → Ext H H' → RV K f' H' m v
  | .non, _, h, _, _ => h
  | .bl _, _, h, _, _ => h
  | .int _, _, h, _, _ => h
  | .str _, _, h, _, _ => h
  | .tup _, _, ⟨a, vs, e, s, r⟩, p, x => ⟨a, vs, e, SqT.ext s x, RVs.mono r p x⟩
  | .ref _, _, ⟨a, e, s⟩, p, x => ⟨a, e, get_pre p s⟩
  | .glo _, _, h, _, _ => h
  | .exc _ _ _, _, ⟨a, d, us, e, h1, h2, h3, r⟩, p, x => ⟨a, d, us, e, x _ _ h1 trivial, x _ _ h2 trivial, h3, RVs.mono r p x⟩
  | .ty _, _, h, _, _ => h
  | .lam _ _ _ _ _ _, _, ⟨e, h1, vs, r, l, g⟩, p, x => ⟨e, x _ _ h1 trivial, vs, RVs.mono r p x, l, g⟩
theorem RVs.mono : ∀ {ms : List M} {vs : List V}, RVs K f H ms vs → f <+: f' → Ext H H' → RVs K f' H' ms vs
  | [], _, h, _, _ => h
  | _ :: _, _, ⟨v, r, e, h, t⟩, p, x => ⟨v, r, e, RV.mono h p x, RVs.mono t p x⟩
end
theorem RVs.length : ∀ {ms : List M} {vs : List V}, RVs K f H ms vs → ms.length = vs.length
  | [], _, h => by cases h; rfl
  | _ :: _, _, ⟨v, r, e, _, t⟩ => by subst e; simp [RVs.length t]
theorem RVs.get : ∀ {ms : List M} {vs : List V} {i : Nat} {m : M}, RVs K f H ms vs → ms[i]? = some m → ∃ v, vs[i]? = some v ∧ RV K f H m v
  | [], _, _, _, _, e => by simp at e
  | _ :: _, _, 0, _, ⟨v, r, e, h, _⟩, e2 => by subst e; simp at e2; subst e2; exact ⟨v, rfl, h⟩
  | _ :: _, _, i + 1, _, ⟨v, r, e, _, t⟩, e2 => by
    subst e
    obtain ⟨u, h1, h2⟩ := RVs.get (i := i) t (by simpa using e2)
    exact ⟨u, by simpa using h1, h2⟩
theorem RVs.getv {ms : List M} {vs : List V} {i : Nat} {v : V} (h : RVs K f H ms vs) (e : vs[i]? = some v) : ∃ m, ms[i]? = some m ∧ RV K f H m v := by
  have l := h.length
  have hi : i < vs.length := (List.getElem?_eq_some_iff.mp e).1
  obtain ⟨u, h1, h2⟩ := RVs.get (i := i) (m := ms[i]'(by omega)) h (by simp)
  rw [e] at h1; cases h1
  exact ⟨_, by simp, h2⟩
theorem RVs.append : ∀ {ms ns : List M} {vs us : List V}, RVs K f H ms vs → RVs K f H ns us → RVs K f H (ms ++ ns) (vs ++ us)
  | [], _, _, _, h, t => by cases h; exact t
  | _ :: _, _, _, _, ⟨v, r, e, h, q⟩, t => by subst e; exact ⟨v, _, rfl, h, RVs.append q t⟩
theorem RVs.take : ∀ {ms : List M} {vs : List V} (n : Nat), RVs K f H ms vs → RVs K f H (ms.take n) (vs.take n)
  | [], _, n, h => by cases h; simp [RVs]
  | _ :: _, _, 0, h => by simp [RVs]
  | _ :: _, _, n + 1, ⟨v, r, e, h, t⟩ => by subst e; exact ⟨v, _, rfl, h, RVs.take n t⟩
theorem RVs.drop : ∀ {ms : List M} {vs : List V} (n : Nat), RVs K f H ms vs → RVs K f H (ms.drop n) (vs.drop n)
  | [], _, n, h => by cases h; simp [RVs]
  | _ :: _, _, 0, h => h
  | _ :: _, _, n + 1, ⟨v, r, e, h, t⟩ => by subst e; exact RVs.drop n t
theorem RVs.set : ∀ {ms : List M} {vs : List V} (n : Nat) {m : M} {v : V}, RVs K f H ms vs → RV K f H m v → RVs K f H (ms.set n m) (vs.set n v)
  | [], _, n, _, _, h, _ => by cases h; simp [RVs]
  | _ :: _, _, 0, _, _, ⟨v, r, e, h, t⟩, q => by subst e; exact ⟨_, _, rfl, q, t⟩
  | _ :: _, _, n + 1, _, _, ⟨v, r, e, h, t⟩, q => by subst e; exact ⟨v, _, rfl, h, RVs.set n t q⟩
theorem RVs.reverse : ∀ {ms : List M} {vs : List V}, RVs K f H ms vs → RVs K f H ms.reverse vs.reverse
  | [], _, h => by cases h; simp [RVs]
  | _ :: _, _, ⟨v, r, e, h, t⟩ => by
    subst e
    rw [List.reverse_cons, List.reverse_cons]
    exact RVs.append (RVs.reverse t) ⟨v, [], rfl, h, rfl⟩
theorem RVs.nil_iff {ms : List M} {vs : List V} (h : RVs K f H ms vs) : ms = [] ↔ vs = [] := by
  have := h.length
  constructor
  · rintro rfl; exact List.eq_nil_of_length_eq_zero (by simpa using this.symm)
  · rintro rfl; exact List.eq_nil_of_length_eq_zero (by simpa using this)
theorem RVs.ints : ∀ {is : List Int} {vs : List V}, RVs K f H (is.map M.int) vs → vs = is.map V.int
  | [], _, h => h
  | _ :: _, _, ⟨v, r, e, h, t⟩ => by subst e; cases h; simp [RVs.ints t]
theorem RVs.of_ints : ∀ (is : List Int), RVs K f H (is.map M.int) (is.map V.int)
  | [] => rfl
  | _ :: r => ⟨_, _, rfl, rfl, RVs.of_ints r⟩
end

/-! ### objects, heaps, frames -/
def keyM : Key → M
  | .inl i => .int i
  | .inr x => .str x
def RKV (K : PySem.W.Frag) (f : List Addr) (H : Hp) : List (M × M) → List (Key × V) → Prop
  | [], ks => ks = []
  | p :: r, ks => ∃ k v l, ks = (k, v) :: l ∧ p.1 = keyM k ∧ RV K f H p.2 v ∧ RKV K f H r l
theorem RKV.mono {K : PySem.W.Frag} {f f' : List Addr} {H H' : Hp} : ∀ {ps : List (M × M)} {ks : List (Key × V)}, RKV K f H ps ks → f <+: f' → Ext H H' → RKV K f' H' ps ks
  | [], _, h, _, _ => h
  | _ :: _, _, ⟨k, v, l, e, h1, h2, h3⟩, p, x => ⟨k, v, l, e, h1, h2.mono p x, RKV.mono h3 p x⟩
def RO (K : PySem.W.Frag) (f : List Addr) (H : Hp) : O → Addr → Prop
  | .lst xs, a => ∃ vs, H a = some (.lst vs) ∧ RVs K f H xs vs
  | .rol xs, a => ∃ o vs, H a = some (.frz o (.lst vs)) ∧ RVs K f H xs vs
  | .dct kvs, a => ∃ ks, H a = some (.dK ks) ∧ RKV K f H kvs ks
  | .ins C ks ms, a => ∃ dx vs, H a = some (.ins (He.ga K C) dx (ks.zip vs)) ∧ ks.length = vs.length ∧ RVs K f H ms vs
  | .tab P q, a => a = P ∧ LamX.TabS H P q
theorem tab_mono {H H' : Hp} {P : Addr} {q : Str} (t : LamX.TabS H P q) (x : Ext H H') (e : H' P = H P) : LamX.TabS H' P q := by
  obtain ⟨ps, h1, h2, h3⟩ := t
  refine ⟨ps, e.trans h1, h2, fun pos cv hc => ?_⟩
  obtain ⟨c, e1, e2⟩ := h3 pos cv hc
  exact ⟨c, e1, x _ _ e2 trivial⟩
theorem RO.some {K : PySem.W.Frag} {f : List Addr} {H : Hp} {o : O} {a : Addr} (h : RO K f H o a) : ∃ u, H a = some u := by
  cases o with
  | lst xs => obtain ⟨vs, e, _⟩ := h; exact ⟨_, e⟩
  | rol xs => obtain ⟨o, vs, e, _⟩ := h; exact ⟨_, e⟩
  | dct _ => obtain ⟨ks, e, _⟩ := h; exact ⟨_, e⟩
  | ins C ks ms => obtain ⟨dx, vs, e, _⟩ := h; exact ⟨_, e⟩
  | tab P q => obtain ⟨rfl, ps, e, _⟩ := h; exact ⟨_, e⟩
structure RH (K : PySem.W.Frag) (f : List Addr) (mh : MH) (H : Hp) : Prop where
  len : f.length = mh.length
  nd : f.Nodup
  ob : ∀ (n : Nat) o a, mh[n]? = some o → f[n]? = some a → RO K f H o a
section
variable {K : PySem.W.Frag} {f : List Addr} {H H' : Hp} {mh : MH}
theorem RH.at (r : RH K f mh H) {n : Nat} {o : O} (h : mh[n]? = some o) : ∃ a, f[n]? = some a ∧ RO K f H o a := by
  have hn : n < mh.length := (List.getElem?_eq_some_iff.mp h).1
  refine ⟨f[n]'(by have := r.len; omega), by simp, r.ob n o _ h (by simp)⟩
theorem RH.inj (r : RH K f mh H) {n k : Nat} {a : Addr} (h : f[n]? = some a) (g : f[k]? = some a) : n = k := by
  obtain ⟨h1, e1⟩ := List.getElem?_eq_some_iff.mp h
  obtain ⟨h2, e2⟩ := List.getElem?_eq_some_iff.mp g
  exact (List.getElem_inj r.nd).mp (e1.trans e2.symm)
/-- a part of the heap that the small heap does not stand on -/
theorem RH.off (r : RH K f mh H) (x : Ext H H') (k : ∀ (n : Nat) a, f[n]? = some a → H' a = H a) : RH K f mh H' where
  len := r.len
  nd := r.nd
  ob := fun n o a h g => by
    have q := r.ob n o a h g
    have e := k n a g
    cases o with
    | lst xs => obtain ⟨vs, e1, rv⟩ := q; exact ⟨vs, e.trans e1, rv.mono (List.prefix_refl _) x⟩
    | rol xs => obtain ⟨o, vs, e1, rv⟩ := q; exact ⟨o, vs, e.trans e1, rv.mono (List.prefix_refl _) x⟩
    | dct _ => obtain ⟨ks, e1, rv⟩ := q; exact ⟨ks, e.trans e1, rv.mono (List.prefix_refl _) x⟩
    | ins C ks ms => obtain ⟨dx, vs, e1, l, rv⟩ := q; exact ⟨dx, vs, e.trans e1, l, rv.mono (List.prefix_refl _) x⟩
    | tab P q' => obtain ⟨rfl, t⟩ := q; exact ⟨rfl, tab_mono t x e⟩
theorem RH.new {p : Addr} {o : HO} (r : RH K f mh H) (h : H p = none) : RH K f mh (upd H p o) :=
  r.off (Ext.new h) fun n a g => by
    obtain ⟨hn, e⟩ := List.getElem?_eq_some_iff.mp g
    obtain ⟨u, hu⟩ := (r.ob n (mh[n]'(by have := r.len; omega)) a (by simp) g).some
    exact upd_ne (ne_of_none hu h)
theorem RH.alloc {p : Addr} {o : O} {u : HO} (r : RH K f mh H) (h : H p = none) (q : RO K (f ++ [p]) (upd H p u) o p) : RH K (f ++ [p]) (mh ++ [o]) (upd H p u) where
  len := by simp [r.len]
  nd := by
    rw [List.nodup_append]
    refine ⟨r.nd, by simp, fun a ha b hb => ?_⟩
    have : b = p := by simpa using hb
    subst this
    rintro rfl
    obtain ⟨n, hn, e⟩ := List.getElem_of_mem ha
    obtain ⟨w, hw⟩ := (r.ob n (mh[n]'(by have := r.len; omega)) a (by simp) (by simp [hn, e])).some
    rw [h] at hw; cases hw
  ob := fun n o' a h1 h2 => by
    have l := r.len
    by_cases hn : n < f.length
    · rw [List.getElem?_append_left hn] at h2
      rw [List.getElem?_append_left (by omega)] at h1
      have q := (r.new (p := p) (o := u) h).ob n o' a h1 h2
      have pf : f <+: f ++ [p] := List.prefix_append _ _
      cases o' with
      | lst xs => obtain ⟨vs, e1, rv⟩ := q; exact ⟨vs, e1, rv.mono pf (Ext.refl _)⟩
      | rol xs => obtain ⟨o, vs, e1, rv⟩ := q; exact ⟨o, vs, e1, rv.mono pf (Ext.refl _)⟩
      | dct _ => obtain ⟨ks, e1, rv⟩ := q; exact ⟨ks, e1, rv.mono pf (Ext.refl _)⟩
      | ins C ks ms => obtain ⟨dx, vs, e1, l, rv⟩ := q; exact ⟨dx, vs, e1, l, rv.mono pf (Ext.refl _)⟩
      | tab P q' => exact q
    · have e : n = f.length := by
        have := (List.getElem?_eq_some_iff.mp h2).1
        simp at this; omega
      subst e
      rw [List.getElem?_append_right (Nat.le_refl _)] at h2
      rw [l, List.getElem?_append_right (Nat.le_refl _)] at h1
      simp at h1 h2
      subst h1 h2
      exact q
theorem RH.put {a : Addr} {n : Nat} {o : O} {u w : HO} (r : RH K f mh H) (hn : f[n]? = some a) (h : H a = some w) (ns : ¬ Stb w) (q : RO K f (upd H a u) o a) : RH K f (mh.set n o) (upd H a u) where
  len := by simp [r.len]
  nd := r.nd
  ob := fun k o' b h1 h2 => by
    have x : Ext H (upd H a u) := Ext.put h ns
    by_cases e : k = n
    · subst e
      rw [hn] at h2; cases h2
      have hk : k < mh.length := by
        have := (List.getElem?_eq_some_iff.mp hn).1
        have := r.len; omega
      rw [List.getElem?_set_self hk] at h1
      cases h1
      exact q
    · rw [List.getElem?_set_ne (Ne.symm e)] at h1
      have q := r.ob k o' b h1 h2
      have ne : b ≠ a := fun z => e (r.inj h2 (z ▸ hn))
      have pf : f <+: f := List.prefix_refl _
      cases o' with
      | lst xs => obtain ⟨vs, e1, rv⟩ := q; exact ⟨vs, (upd_ne ne).trans e1, rv.mono pf x⟩
      | rol xs => obtain ⟨o, vs, e1, rv⟩ := q; exact ⟨o, vs, (upd_ne ne).trans e1, rv.mono pf x⟩
      | dct _ => obtain ⟨ks, e1, rv⟩ := q; exact ⟨ks, (upd_ne ne).trans e1, rv.mono pf x⟩
      | ins C ks ms => obtain ⟨dx, vs, e1, l, rv⟩ := q; exact ⟨dx, vs, (upd_ne ne).trans e1, l, rv.mono pf x⟩
      | tab P q' => obtain ⟨rfl, t⟩ := q; exact ⟨rfl, tab_mono t x (upd_ne ne)⟩
end
structure RS (K : PySem.W.Frag) (f : List Addr) (H : Hp) (sm : MS) (σ : L2.St) : Prop where
  len : sm.length = σ.length
  at_ : ∀ (i : Nat) m, sm[i]? = some (some m) → ∃ v, σ[i]? = some (some v) ∧ RV K f H m v
section
variable {K : PySem.W.Frag} {f f' : List Addr} {H H' : Hp} {sm : MS} {σ : L2.St}
theorem RS.mono (r : RS K f H sm σ) (p : f <+: f') (x : Ext H H') : RS K f' H' sm σ :=
  ⟨r.len, fun i m e => let ⟨v, h1, h2⟩ := r.at_ i m e; ⟨v, h1, h2.mono p x⟩⟩
theorem RS.set (r : RS K f H sm σ) {i : Nat} {m : M} {v : V} (h : RV K f H m v) : RS K f H (sm.set i (some m)) (σ.set i (some v)) :=
  ⟨by simp [r.len], fun j m' e => by
    by_cases hj : j = i
    · subst hj
      have hl : j < sm.length := by
        have := (List.getElem?_eq_some_iff.mp e).1; simpa using this
      rw [List.getElem?_set_self hl] at e
      have e' : m = m' := by injection e with e; injection e
      subst e'
      exact ⟨v, by rw [List.getElem?_set_self (by rw [← r.len]; exact hl)], h⟩
    · rw [List.getElem?_set_ne (Ne.symm hj)] at e
      obtain ⟨w, h1, h2⟩ := r.at_ j m' e
      exact ⟨w, by rw [List.getElem?_set_ne (Ne.symm hj)]; exact h1, h2⟩⟩
theorem RS.unset (r : RS K f H sm σ) {i : Nat} : RS K f H (sm.set i none) (σ.set i none) :=
  ⟨by simp [r.len], fun j m' e => by
    by_cases hj : j = i
    · subst hj
      have hl : j < sm.length := by
        have := (List.getElem?_eq_some_iff.mp e).1; simpa using this
      rw [List.getElem?_set_self hl] at e
      cases e
    · rw [List.getElem?_set_ne (Ne.symm hj)] at e
      obtain ⟨w, h1, h2⟩ := r.at_ j m' e
      exact ⟨w, by rw [List.getElem?_set_ne (Ne.symm hj)]; exact h1, h2⟩⟩
end
end Mn
end
section
set_option maxHeartbeats 2000000
namespace Mn
open PySem PySem.Spec PyProof.Rows L2

abbrev KM := M → MH → Prop
abbrev MTE := MS → MH → KM → KM → Prop
abbrev MTA := MS → MH → (List M → MH → Prop) → KM → Prop
abbrev MTT := MS → MH → (Bool → MH → Prop) → KM → Prop
structure MD where
  nx : MS → MH → Prop
  rt : KM
  bk : MS → MH → Prop
  ct : MS → MH → Prop
  xc : M → MS → MH → Prop
abbrev MTS := MD → MS → MH → Prop
/-- a promise: arguments, heap, the wanted end, the wanted exception -/
abbrev MSp := List M → MH → KM → KM → Prop

section
variable (K : PySem.W.Frag)
def QL (f : List Addr) (H : Hp) (Q : KM) (v : V) (H' : Hp) : Prop := ∃ f' mh' m, f <+: f' ∧ Ext H H' ∧ RH K f' mh' H' ∧ RV K f' H' m v ∧ Q m mh'
def QLs (f : List Addr) (H : Hp) (Q : List M → MH → Prop) (vs : List V) (H' : Hp) : Prop := ∃ f' mh' ms, f <+: f' ∧ Ext H H' ∧ RH K f' mh' H' ∧ RVs K f' H' ms vs ∧ Q ms mh'
def QLb (f : List Addr) (H : Hp) (Q : Bool → MH → Prop) (b : Bool) (H' : Hp) : Prop := ∃ f' mh', f <+: f' ∧ Ext H H' ∧ RH K f' mh' H' ∧ Q b mh'
/-- an exception in the air: its class, the dict of its fields -/
def XL (f : List Addr) (H : Hp) (E : KM) (cls : Value) (d : Option Addr) (H' : Hp) : Prop :=
  ∃ f' mh' C ks ms us dx, f <+: f' ∧ Ext H H' ∧ RH K f' mh' H' ∧ cls = .ref (He.ga K C) ∧ d = some dx ∧ H' dx = some (.xd (ks.zip us)) ∧ us.length = ks.length ∧ RVs K f' H' ms us ∧ E (.exc C ks ms) mh'
def SL (f : List Addr) (H : Hp) (P : MS → MH → Prop) (σ' : L2.St) (H' : Hp) : Prop := ∃ f' mh' sm', f <+: f' ∧ Ext H H' ∧ RH K f' mh' H' ∧ RS K f' H' sm' σ' ∧ P sm' mh'
def XS (f : List Addr) (H : Hp) (E : M → MS → MH → Prop) (cls : Value) (d : Option Addr) (σ' : L2.St) (H' : Hp) : Prop :=
  ∃ f' mh' sm' C ks ms us dx, f <+: f' ∧ Ext H H' ∧ RH K f' mh' H' ∧ RS K f' H' sm' σ' ∧ cls = .ref (He.ga K C) ∧ d = some dx ∧ H' dx = some (.xd (ks.zip us)) ∧ us.length = ks.length ∧ RVs K f' H' ms us ∧ E (.exc C ks ms) sm' mh'
end
section
variable {K : PySem.W.Frag} {f f1 : List Addr} {H H1 H2 : Hp} {cls : Value} {d : Option Addr} {σ' : L2.St}
theorem QL.back {Q : KM} {v : V} (p : f <+: f1) (x : Ext H H1) (h : QL K f1 H1 Q v H2) : QL K f H Q v H2 := by
  obtain ⟨f', mh', m, p', x', r⟩ := h
  exact ⟨f', mh', m, p.trans p', x.trans x', r⟩
theorem QLs.back {Q : List M → MH → Prop} {v : List V} (p : f <+: f1) (x : Ext H H1) (h : QLs K f1 H1 Q v H2) : QLs K f H Q v H2 := by
  obtain ⟨f', mh', m, p', x', r⟩ := h
  exact ⟨f', mh', m, p.trans p', x.trans x', r⟩
theorem QLb.back {Q : Bool → MH → Prop} {b : Bool} (p : f <+: f1) (x : Ext H H1) (h : QLb K f1 H1 Q b H2) : QLb K f H Q b H2 := by
  obtain ⟨f', mh', p', x', r⟩ := h
  exact ⟨f', mh', p.trans p', x.trans x', r⟩
theorem XL.back {E : KM} (p : f <+: f1) (x : Ext H H1) (h : XL K f1 H1 E cls d H2) : XL K f H E cls d H2 := by
  obtain ⟨f', mh', C, ks, ms, us, dx, p', x', r⟩ := h
  exact ⟨f', mh', C, ks, ms, us, dx, p.trans p', x.trans x', r⟩
theorem SL.back {P : MS → MH → Prop} (p : f <+: f1) (x : Ext H H1) (h : SL K f1 H1 P σ' H2) : SL K f H P σ' H2 := by
  obtain ⟨f', mh', m, p', x', r⟩ := h
  exact ⟨f', mh', m, p.trans p', x.trans x', r⟩
theorem XS.back {E : M → MS → MH → Prop} (p : f <+: f1) (x : Ext H H1) (h : XS K f1 H1 E cls d σ' H2) : XS K f H E cls d σ' H2 := by
  obtain ⟨f', mh', sm', C, ks, ms, us, dx, p', x', r⟩ := h
  exact ⟨f', mh', sm', C, ks, ms, us, dx, p.trans p', x.trans x', r⟩
end

/-- where one stands within an expression: the small state stands for the layer's; exceptions go to W -/
structure At (K : PySem.W.Frag) (W : WX) (f : List Addr) (sm : MS) (mh : MH) (σ : L2.St) (H : Hp) (E : KM) : Prop where
  h : RH K f mh H
  s : RS K f H sm σ
  e : ∀ cls d H', XL K f H E cls d H' → W cls d σ H'
theorem At.step {K : PySem.W.Frag} {W : WX} {f f1 : List Addr} {sm : MS} {mh mh1 : MH} {σ : L2.St} {H H1 : Hp} {E : KM} (a : At K W f sm mh σ H E) (p : f <+: f1) (x : Ext H H1) (r : RH K f1 mh1 H1) : At K W f1 sm mh1 σ H1 E :=
  ⟨r, a.s.mono p x, fun cls d H' q => a.e cls d H' (q.back p x)⟩

def liftE (K : PySem.W.Frag) (W : WX) (w : MTE) : TE := fun σ H Q => ∃ f sm mh Q' E, At K W f sm mh σ H E ∧ w sm mh Q' E ∧ ∀ v H', QL K f H Q' v H' → Q v H'
def liftA (K : PySem.W.Frag) (W : WX) (w : MTA) : TA := fun σ H Q => ∃ f sm mh Q' E, At K W f sm mh σ H E ∧ w sm mh Q' E ∧ ∀ v H', QLs K f H Q' v H' → Q v H'
def liftT (K : PySem.W.Frag) (W : WX) (w : MTT) : TT := fun σ H Q => ∃ f sm mh Q' E, At K W f sm mh σ H E ∧ w sm mh Q' E ∧ ∀ b H', QLb K f H Q' b H' → Q b H'
/-- the ends of a statement -/
structure AtS (K : PySem.W.Frag) (W : WX) (D : Ends) (f : List Addr) (sm : MS) (mh : MH) (σ : L2.St) (H : Hp) (D' : MD) : Prop where
  h : RH K f mh H
  s : RS K f H sm σ
  nx : ∀ σ' H', SL K f H D'.nx σ' H' → D.nx σ' H'
  rt : ∀ v H', QL K f H D'.rt v H' → D.rt v H'
  bk : ∀ σ' H', SL K f H D'.bk σ' H' → D.bk σ' H'
  ct : ∀ σ' H', SL K f H D'.ct σ' H' → D.ct σ' H'
  xc : ∀ cls d σ' H', XS K f H D'.xc cls d σ' H' → W cls d σ' H'
theorem AtS.step {K : PySem.W.Frag} {W : WX} {D : Ends} {f f1 : List Addr} {sm sm1 : MS} {mh mh1 : MH} {σ σ1 : L2.St} {H H1 : Hp} {D' : MD} (a : AtS K W D f sm mh σ H D') (p : f <+: f1) (x : Ext H H1) (r : RH K f1 mh1 H1) (s : RS K f1 H1 sm1 σ1) :
    AtS K W D f1 sm1 mh1 σ1 H1 D' :=
  ⟨r, s, fun _ _ q => a.nx _ _ (q.back p x), fun _ _ q => a.rt _ _ (q.back p x), fun _ _ q => a.bk _ _ (q.back p x), fun _ _ q => a.ct _ _ (q.back p x), fun _ _ _ _ q => a.xc _ _ _ _ (q.back p x)⟩
/-- an expression within a statement -/
theorem AtS.at {K : PySem.W.Frag} {W : WX} {D : Ends} {f : List Addr} {sm : MS} {mh : MH} {σ : L2.St} {H : Hp} {D' : MD} (a : AtS K W D f sm mh σ H D') : At K W f sm mh σ H (fun e h => D'.xc e sm h) :=
  ⟨a.h, a.s, fun cls d H' ⟨f', mh', C, ks, ms, us, dx, p, x, r, e1, e2, e3, l, rv, q⟩ => a.xc _ _ _ _ ⟨f', mh', sm, C, ks, ms, us, dx, p, x, r, a.s.mono p x, e1, e2, e3, l, rv, q⟩⟩
def liftS (K : PySem.W.Frag) (W : WX) (w : MTS) : TS := fun D σ H => ∃ f sm mh D', AtS K W D f sm mh σ H D' ∧ w D' sm mh

/-! ### the judgements -/
abbrev EOk (X : Cx) (W : WX) (e : Expr) (w : MTE) : Prop := PE X e (liftE X.K W w)
abbrev TOk (X : Cx) (W : WX) (e : Expr) (w : MTT) : Prop := PT X e (liftT X.K W w)
abbrev AOk (X : Cx) (W : WX) (es : List Expr) (w : MTA) : Prop := PA X es (liftA X.K W w)
abbrev SOk (X : Cx) (W : WX) (s : Stmt) (w : MTS) : Prop := PS X s (liftS X.K W w)
abbrev SsOk (X : Cx) (W : WX) (s : List Stmt) (w : MTS) : Prop := PSs X s (liftS X.K W w)

theorem PE.mono {X : Cx} {e : Expr} {t u : TE} (h : PE X e t) (i : ∀ σ H Q, u σ H Q → t σ H Q) : PE X e u := ⟨fun pins s σ H Q I q => h.run pins s σ H Q I (i σ H Q q)⟩
theorem PT.mono {X : Cx} {e : Expr} {t u : TT} (h : PT X e t) (i : ∀ σ H Q, u σ H Q → t σ H Q) : PT X e u := ⟨fun pins s σ H Q I q => h.run pins s σ H Q I (i σ H Q q)⟩
theorem PA.mono {X : Cx} {e : List Expr} {t u : TA} (h : PA X e t) (i : ∀ σ H Q, u σ H Q → t σ H Q) : PA X e u := ⟨fun pos pins s σ H Q I q => h.run pos pins s σ H Q I (i σ H Q q)⟩
theorem PS.mono {X : Cx} {e : Stmt} {t u : TS} (h : PS X e t) (i : ∀ D σ H, u D σ H → t D σ H) : PS X e u := ⟨fun pins s σ H D I q => h.run pins s σ H D I (i D σ H q)⟩
theorem PSs.mono {X : Cx} {e : List Stmt} {t u : TS} (h : PSs X e t) (i : ∀ D σ H, u D σ H → t D σ H) : PSs X e u := ⟨fun pins s σ H D I q => h.run pins s σ H D I (i D σ H q)⟩

/-! ### one part, then the rest -/
section
variable {K : PySem.W.Frag} {W : WX} {f : List Addr} {sm : MS} {mh : MH} {σ : L2.St} {H : Hp} {E : KM}
/-- behind a part: the value, where one stands -/
theorem At.go (a : At K W f sm mh σ H E) {w : MTE} {Q' : KM} {Q : VK} (h : w sm mh Q' E)
    (k : ∀ f1 mh1 H1 m v, f <+: f1 → Ext H H1 → At K W f1 sm mh1 σ H1 E → RV K f1 H1 m v → Q' m mh1 → Q v H1) : liftE K W w σ H Q :=
  ⟨f, sm, mh, Q', E, a, h, fun v H1 ⟨f1, mh1, m, p, x, r, rv, q⟩ => k f1 mh1 H1 m v p x (a.step p x r) rv q⟩
theorem At.goA (a : At K W f sm mh σ H E) {w : MTA} {Q' : List M → MH → Prop} {Q : List V → Hp → Prop} (h : w sm mh Q' E)
    (k : ∀ f1 mh1 H1 m v, f <+: f1 → Ext H H1 → At K W f1 sm mh1 σ H1 E → RVs K f1 H1 m v → Q' m mh1 → Q v H1) : liftA K W w σ H Q :=
  ⟨f, sm, mh, Q', E, a, h, fun v H1 ⟨f1, mh1, m, p, x, r, rv, q⟩ => k f1 mh1 H1 m v p x (a.step p x r) rv q⟩
theorem At.goT (a : At K W f sm mh σ H E) {w : MTT} {Q' : Bool → MH → Prop} {Q : Bool → Hp → Prop} (h : w sm mh Q' E)
    (k : ∀ f1 mh1 H1 b, f <+: f1 → Ext H H1 → At K W f1 sm mh1 σ H1 E → Q' b mh1 → Q b H1) : liftT K W w σ H Q :=
  ⟨f, sm, mh, Q', E, a, h, fun v H1 ⟨f1, mh1, p, x, r, q⟩ => k f1 mh1 H1 v p x (a.step p x r) q⟩
end

/-! ### operators by values -/
abbrev MR2 := M → M → MH → KM → Prop
abbrev MR1 := M → MH → KM → Prop
/-- r, by the layer's values, does what m does -/
def L2R (K : PySem.W.Frag) (r : R2) (m : MR2) : Prop := ∀ (f : List Addr) (mh : MH) (H : Hp) (x y : M) (xv yv : V) (Q' : KM) (Q : VK), RH K f mh H → RV K f H x xv → RV K f H y yv → m x y mh Q' → (∀ v H', QL K f H Q' v H' → Q v H') → r xv yv H Q
def L1R (K : PySem.W.Frag) (r : V → Hp → VK → Prop) (m : MR1) : Prop := ∀ (f : List Addr) (mh : MH) (H : Hp) (x : M) (xv : V) (Q' : KM) (Q : VK), RH K f mh H → RV K f H x xv → m x mh Q' → (∀ v H', QL K f H Q' v H' → Q v H') → r xv H Q
def LsR (K : PySem.W.Frag) (r : List V → Hp → VK → Prop) (m : List M → MH → KM → Prop) : Prop := ∀ (f : List Addr) (mh : MH) (H : Hp) (x : List M) (xv : List V) (Q' : KM) (Q : VK), RH K f mh H → RVs K f H x xv → m x mh Q' → (∀ v H', QL K f H Q' v H' → Q v H') → r xv H Q
theorem L2R.or {K : PySem.W.Frag} {r r' : R2} {m m' : MR2} (h : L2R K r m) (h' : L2R K r' m') : L2R K (fun x y H Q => r x y H Q ∨ r' x y H Q) (fun x y H Q => m x y H Q ∨ m' x y H Q) :=
  fun f mh H x y xv yv Q' Q a b c q k => q.elim (fun q => .inl (h f mh H x y xv yv Q' Q a b c q k)) (fun q => .inr (h' f mh H x y xv yv Q' Q a b c q k))
/-- a plain value out -/
theorem QL.same {K : PySem.W.Frag} {f : List Addr} {mh : MH} {H : Hp} {Q : KM} {m : M} {v : V} (r : RH K f mh H) (rv : RV K f H m v) (q : Q m mh) : QL K f H Q v H := ⟨f, mh, m, List.prefix_refl _, Ext.refl _, r, rv, q⟩

/-! ### expressions -/
def wVar (i : Nat) : MTE := fun sm h Q _ => ∃ m, sm[i]? = some (some m) ∧ Q m h
def wCon (m : M) : MTE := fun _ h Q _ => Q m h
def wOp (r : MR2) (a b : MTE) : MTE := fun sm h Q E => a sm h (fun x h1 => b sm h1 (fun y h2 => r x y h2 Q) E) E
def wUn (r : MR1) (a : MTE) : MTE := fun sm h Q E => a sm h (fun x h1 => r x h1 Q) E
section
variable {X : Cx} {W : WX} {a b c : Expr} {wa wb wc : MTE} {pos : Pos}
theorem m_var {i : Nat} {x : Str} (hN : X.N[i]? = some x) (hv : Vis X.env.scope x) (hd : (x == ("__debug__" : Str)) = false := by decide) (hcd : (x == ("__classdict__" : Str)) = false := by decide) : EOk X W (.Name x pos) (wVar i) :=
  PE.mono (pe_var hN hv hd hcd) fun σ H Q ⟨f, sm, mh, Q', E, a, ⟨m, h1, h2⟩, k⟩ =>
    let ⟨v, e, rv⟩ := a.s.at_ i m h1
    ⟨v, e, k v H (QL.same a.h rv h2)⟩
theorem m_con {m : M} {v : V} {e : Expr} (h : PE X e (tC v)) (r : ∀ f H, RV X.K f H m v) : EOk X W e (wCon m) :=
  PE.mono h fun σ H Q ⟨f, sm, mh, Q', E, a, q, k⟩ => k v H (QL.same a.h (r f H) q)
theorem m_op {op : Operator} {r : R2} {m : MR2} (ho : OpR X (binaryOp op) r) (l : L2R X.K r m) (ha : EOk X W a wa) (hb : EOk X W b wb) : EOk X W (.BinOp a op b pos) (wOp m wa wb) :=
  PE.mono (pe_op ho ha hb) fun σ H Q ⟨f, sm, mh, Q', E, a, q, k⟩ =>
    a.go q fun f1 mh1 H1 m1 v1 p1 x1 a1 r1 q1 => a1.go q1 fun f2 mh2 H2 m2 v2 p2 x2 a2 r2 q2 =>
      l f2 mh2 H2 m1 m2 v1 v2 Q' Q a2.h (r1.mono p2 x2) r2 q2 fun v H' z => k v H' ((z.back p2 x2).back p1 x1)
theorem m_un {op : UnaryOp} {r : V → Hp → VK → Prop} {m : MR1} (ho : UnR X (unaryOp op) r) (l : L1R X.K r m) (ha : EOk X W a wa) : EOk X W (.UnaryOp op a pos) (wUn m wa) :=
  PE.mono (pe_un ho ha) fun σ H Q ⟨f, sm, mh, Q', E, a, q, k⟩ =>
    a.go q fun f1 mh1 H1 m1 v1 p1 x1 a1 r1 q1 => l f1 mh1 H1 m1 v1 Q' Q a1.h r1 q1 fun v H' z => k v H' (z.back p1 x1)
theorem m_cmp {op : CmpOp} {r : R2} {m : MR2} (ho : OpR X (compareOp op) r) (l : L2R X.K r m) (ha : EOk X W a wa) (hb : EOk X W b wb) (hm : behindInMarks op b = false) : EOk X W (.Compare a [op] [b] pos) (wOp m wa wb) :=
  PE.mono (pe_cmpR ho ha hb hm) fun σ H Q ⟨f, sm, mh, Q', E, a, q, k⟩ =>
    a.go q fun f1 mh1 H1 m1 v1 p1 x1 a1 r1 q1 => a1.go q1 fun f2 mh2 H2 m2 v2 p2 x2 a2 r2 q2 =>
      l f2 mh2 H2 m1 m2 v1 v2 Q' Q a2.h (r1.mono p2 x2) r2 q2 fun v H' z => k v H' ((z.back p2 x2).back p1 x1)
end
end Mn
end
section
set_option maxHeartbeats 2000000
namespace Mn
open PySem PySem.Spec PyProof.Rows L2

/-! ### ints -/
def mI (C : Int → Int → Prop) (g : Int → Int → M) : MR2 := fun x y h Q => match x, y with
  | .int i, .int j => C i j ∧ Q (g i j) h
  | _, _ => False
theorem mI_inv {C : Int → Int → Prop} {g : Int → Int → M} {x y : M} {h : MH} {Q : KM} (q : mI C g x y h Q) : ∃ i j, x = .int i ∧ y = .int j ∧ C i j ∧ Q (g i j) h := by
  cases x <;> cases y <;> first | exact False.elim q | exact ⟨_, _, rfl, rfl, q.1, q.2⟩
theorem l_I {K : PySem.W.Frag} {C C' : Int → Int → Prop} {g : Int → Int → V} {g' : Int → Int → M} (hc : ∀ i j, C' i j → C i j) (hg : ∀ f H i j, RV K f H (g' i j) (g i j)) : L2R K (rI C g) (mI C' g') := by
  intro f mh H x y xv yv Q' Q r rx ry q k
  obtain ⟨i, j, rfl, rfl, c, q⟩ := mI_inv q
  have e1 : xv = .int i := rx
  have e2 : yv = .int j := ry
  subst e1 e2
  exact ⟨i, j, rfl, rfl, hc _ _ c, k _ _ (QL.same r (hg f H i j) q)⟩
theorem l_I0 {K : PySem.W.Frag} {g : Int → Int → V} {g' : Int → Int → M} (hg : ∀ f H i j, RV K f H (g' i j) (g i j)) : L2R K (rI0 g) (mI (fun _ _ => True) g') := by
  intro f mh H x y xv yv Q' Q r rx ry q k
  obtain ⟨i, j, rfl, rfl, c, q⟩ := mI_inv q
  have e1 : xv = .int i := rx
  have e2 : yv = .int j := ry
  subst e1 e2
  exact ⟨i, j, rfl, rfl, k _ _ (QL.same r (hg f H i j) q)⟩

/-- together at most 2^27 bits -/
def BitsOk (i j : Int) : Prop := CMulX i j
def mSub : MR2 := mI (fun _ _ => True) fun i j => .int (i - j)
def mFdiv : MR2 := mI (fun _ j => j ≠ 0 ∧ j.natAbs.log2 < 9000) fun i j => .int (i.fdiv j)
def mMod : MR2 := mI (fun _ j => j ≠ 0) fun i j => .int (i.fmod j)
def PowOk (i j : Int) : Prop := 0 ≤ j ∧ (Builtin.Int.intBits i : Int) * j ≤ 2 ^ 27
def mPow : MR2 := mI PowOk fun i j => .int (i ^ j.toNat)
def mShl : MR2 := mI CShl fun i j => .int (i * 2 ^ j.toNat)
def mShr : MR2 := mI (fun _ j => 0 ≤ j) fun i j => .int (i / 2 ^ j.toNat)
def mAnd : MR2 := mI (fun _ _ => True) fun i j => .int (Builtin.bitAnd i j)
def mLt : MR2 := mI (fun _ _ => True) fun i j => .bl (decide (i < j))
def mLe : MR2 := mI (fun _ _ => True) fun i j => .bl (decide (i ≤ j))
def mGt : MR2 := mI (fun _ _ => True) fun i j => .bl (decide (j < i))
def mGe : MR2 := mI (fun _ _ => True) fun i j => .bl (decide (j ≤ i))
section
variable {X : Cx}
theorem op_fdivA : OpR X (binaryOp .FloorDiv) (rI (fun _ j => j ≠ 0 ∧ j.natAbs.log2 < 9000) fun i j => .int (i.fdiv j)) := opI fun _ _ _ _ _ _ _ hc q => floordiv_int hc.1 q (.inl (PyProof.noPylong_of_log2 hc.2))
theorem iop_fdivA : OpR X (inplaceOp .FloorDiv) (rI (fun _ j => j ≠ 0 ∧ j.natAbs.log2 < 9000) fun i j => .int (i.fdiv j)) := opI fun _ _ _ _ _ _ _ hc q => ifloordiv_int hc.1 q (.inl (PyProof.noPylong_of_log2 hc.2))
theorem op_powA : OpR X (binaryOp .Pow) (rI PowOk fun i j => .int (i ^ j.toNat)) := opI fun _ _ _ _ _ _ _ hc q => pow_int hc.1 hc.2 q
theorem iop_mulX : OpR X (inplaceOp .Mult) (rI CMulX fun i j => .int (i * j)) := opI fun _ _ _ _ _ _ _ hc q => imul_int q hc.ok
theorem l_sub : L2R X.K (rI0 fun i j => .int (i - j)) mSub := l_I0 fun _ _ _ _ => rfl
theorem l_fdiv : L2R X.K (rI (fun _ j => j ≠ 0 ∧ j.natAbs.log2 < 9000) fun i j => .int (i.fdiv j)) mFdiv := l_I (fun _ _ h => h) fun _ _ _ _ => rfl
theorem l_mod : L2R X.K (rI (fun _ j => j ≠ 0) fun i j => .int (i.fmod j)) mMod := l_I (fun _ _ h => h) fun _ _ _ _ => rfl
theorem l_pow : L2R X.K (rI PowOk fun i j => .int (i ^ j.toNat)) mPow := l_I (fun _ _ h => h) fun _ _ _ _ => rfl
theorem l_shl : L2R X.K (rI CShl fun i j => .int (i * 2 ^ j.toNat)) mShl := l_I (fun _ _ h => h) fun _ _ _ _ => rfl
theorem l_shr : L2R X.K (rI (fun _ j => 0 ≤ j) fun i j => .int (i / 2 ^ j.toNat)) mShr := l_I (fun _ _ h => h) fun _ _ _ _ => rfl
theorem l_and : L2R X.K (rI0 fun i j => .int (Builtin.bitAnd i j)) mAnd := l_I0 fun _ _ _ _ => rfl
theorem l_lt : L2R X.K (rI0 fun i j => .bl (decide (i < j))) mLt := l_I0 fun _ _ _ _ => rfl
theorem l_le : L2R X.K (rI0 fun i j => .bl (decide (i ≤ j))) mLe := l_I0 fun _ _ _ _ => rfl
theorem l_gt : L2R X.K (rI0 fun i j => .bl (decide (j < i))) mGt := l_I0 fun _ _ _ _ => rfl
theorem l_ge : L2R X.K (rI0 fun i j => .bl (decide (j ≤ i))) mGe := l_I0 fun _ _ _ _ => rfl
end

/-! ### + and * of ints, lists, tuples, texts -/
def SZ : Nat := 16777216
theorem SZ_eq : sizeLine = SZ := sizeLine_eq
def mAdd : MR2 := fun x y h Q => match x, y with
  | .int i, .int j => Q (.int (i + j)) h
  | .ref n, .ref k => ∃ xs ys, h[n]? = some (.lst xs) ∧ h[k]? = some (.lst ys) ∧ xs.length + ys.length ≤ SZ ∧ Q (.ref h.length) (h ++ [.lst (xs ++ ys)])
  | .tup xs, .tup ys => xs.length + ys.length ≤ SZ ∧ Q (.tup (xs ++ ys)) h
  | .str a, .str b => a.length + b.length ≤ SZ ∧ Q (.str (a ++ b)) h
  | _, _ => False
def mMul : MR2 := fun x y h Q => match x, y with
  | .int i, .int j => BitsOk i j ∧ Q (.int (i * j)) h
  | .ref n, .int k => ∃ xs, h[n]? = some (.lst xs) ∧ -(2 ^ 63) ≤ k ∧ k < 2 ^ 63 ∧ xs.length * k.toNat ≤ SZ ∧ Q (.ref h.length) (h ++ [.lst (List.replicate k.toNat xs).flatten])
  | .tup xs, .int k => xs ≠ [] ∧ 2 ≤ k ∧ k ≤ 1000 ∧ xs.length ≤ 1000 ∧ Q (.tup (List.replicate k.toNat xs).flatten) h
  | _, _ => False
section
variable {K : PySem.W.Frag} {f : List Addr} {mh : MH} {H : Hp} {Q' : KM} {Q : VK}
/-- a new list -/
theorem QL.lst {p : Addr} {ms : List M} {vs : List V} (r : RH K f mh H) (rv : RVs K f H ms vs) (hp : H p = none) (q : Q' (.ref mh.length) (mh ++ [.lst ms])) : QL K f H Q' (.ref p) (upd H p (.lst vs)) := by
  have x : Ext H (upd H p (.lst vs)) := Ext.new hp
  have pf : f <+: f ++ [p] := List.prefix_append _ _
  refine ⟨f ++ [p], mh ++ [.lst ms], .ref mh.length, pf, x, r.alloc (o := .lst ms) hp ⟨vs, upd_same, rv.mono pf x⟩, ⟨p, rfl, ?_⟩, q⟩
  rw [List.getElem?_append_right (by rw [r.len]; exact Nat.le_refl _), r.len]; simp
/-- a new tuple -/
theorem QL.tup {p : Addr} {ms : List M} {vs : List V} (r : RH K f mh H) (rv : RVs K f H ms vs) (hp : H p = none) (q : Q' (.tup ms) mh) : QL K f H Q' (.ref p) (upd H p (.tup vs)) := by
  have x : Ext H (upd H p (.tup vs)) := Ext.new hp
  exact ⟨f, mh, .tup ms, List.prefix_refl _, x, r.new hp, ⟨p, vs, rfl, .of upd_same, rv.mono (List.prefix_refl _) x⟩, q⟩
/-- a list, as it stands -/
theorem RH.lst (r : RH K f mh H) {n : Nat} {xs : List M} {v : V} (h : mh[n]? = some (.lst xs)) (rv : RV K f H (.ref n) v) : ∃ a vs, v = .ref a ∧ f[n]? = some a ∧ H a = some (.lst vs) ∧ RVs K f H xs vs := by
  obtain ⟨a, e, ha⟩ := rv
  obtain ⟨b, hb, vs, e1, r1⟩ := r.at h
  rw [ha] at hb; cases hb
  exact ⟨a, vs, e, ha, e1, r1⟩
theorem RVs.rep {ms : List M} {vs : List V} (h : RVs K f H ms vs) : ∀ k : Nat, RVs K f H (List.replicate k ms).flatten (List.replicate k vs).flatten
  | 0 => rfl
  | k + 1 => by
    rw [List.replicate_succ, List.replicate_succ, List.flatten_cons, List.flatten_cons]
    exact h.append (RVs.rep h k)
end
section
variable {X : Cx}
/-- the layer's addition, of all kinds -/
def rAddA (K : PySem.W.Frag) : R2 := fun x y H Q => rI0 (fun i j => .int (i + j)) x y H Q ∨ rCat x y H Q ∨ rCatA K x y H Q ∨ (∃ i j, x = .str i ∧ y = .str j ∧ i.length + j.length ≤ sizeLine ∧ Q (.str (i ++ j)) H)
theorem op_addA : OpR X (binaryOp .Add) (rAddA X.K) := OpR.or op_add (OpR.or op_cat (OpR.or op_catA op_add_str))
theorem l_add : L2R X.K (rAddA X.K) mAdd := by
  intro f mh H x y xv yv Q' Q r rx ry q k
  cases x with
  | int i =>
    cases y with
    | int j =>
      have e1 : xv = .int i := rx
      have e2 : yv = .int j := ry
      subst e1 e2
      exact .inl ⟨i, j, rfl, rfl, k _ _ (QL.same r (m := .int (i + j)) rfl q)⟩
    | _ => exact False.elim q
  | ref n =>
    cases y with
    | ref m =>
      obtain ⟨xs, ys, h1, h2, sz, q⟩ := q
      obtain ⟨a, vs, rfl, ha, e1, r1⟩ := r.lst h1 rx
      obtain ⟨b, us, rfl, hb, e2, r2⟩ := r.lst h2 ry
      refine .inr (.inl ⟨a, b, vs, us, rfl, rfl, e1, e2, by rw [SZ_eq, ← r1.length, ← r2.length]; exact sz, fun p hp => k _ _ (QL.lst r (r1.append r2) hp q)⟩)
    | _ => exact False.elim q
  | tup xs =>
    cases y with
    | tup ys =>
      obtain ⟨sz, q⟩ := q
      obtain ⟨a, vs, rfl, s1, r1⟩ := rx
      obtain ⟨b, us, rfl, s2, r2⟩ := ry
      refine .inr (.inr (.inl ⟨a, b, vs, us, rfl, rfl, s1, s2, by rw [SZ_eq, ← r1.length, ← r2.length]; exact sz, fun e => ?_, fun _ e => ?_, fun _ _ p hp => k _ _ (QL.tup r (r1.append r2) hp q)⟩))
      · have : xs = [] := r1.nil_iff.mpr e
        subst this
        exact k _ _ (QL.same r (m := .tup ys) ⟨b, us, rfl, s2, r2⟩ q)
      · have : ys = [] := r2.nil_iff.mpr e
        subst this
        rw [List.append_nil] at q
        exact k _ _ (QL.same r (m := .tup xs) ⟨a, vs, rfl, s1, r1⟩ q)
    | _ => exact False.elim q
  | str a =>
    cases y with
    | str b =>
      obtain ⟨sz, q⟩ := q
      have e1 : xv = .str a := rx
      have e2 : yv = .str b := ry
      subst e1 e2
      exact .inr (.inr (.inr ⟨a, b, rfl, rfl, by rw [SZ_eq]; exact sz, k _ _ (QL.same r (m := .str (a ++ b)) rfl q)⟩))
    | _ => exact False.elim q
  | _ => cases y <;> exact False.elim q
def rMulA (K : PySem.W.Frag) : R2 := fun x y H Q => rI CMulX (fun i j => .int (i * j)) x y H Q ∨ rRep x y H Q ∨ rRepT K x y H Q
theorem op_mulA : OpR X (binaryOp .Mult) (rMulA X.K) := OpR.or op_mulX (OpR.or op_rep op_repT)
theorem l_mul : L2R X.K (rMulA X.K) mMul := by
  intro f mh H x y xv yv Q' Q r rx ry q k
  cases x with
  | int i =>
    cases y with
    | int j =>
      have e1 : xv = .int i := rx
      have e2 : yv = .int j := ry
      subst e1 e2
      exact .inl ⟨i, j, rfl, rfl, q.1, k _ _ (QL.same r (m := .int (i * j)) rfl q.2)⟩
    | _ => exact False.elim q
  | ref n =>
    cases y with
    | int m =>
      obtain ⟨xs, h1, b1, b2, sz, q⟩ := q
      obtain ⟨a, vs, rfl, ha, e1, r1⟩ := r.lst h1 rx
      have e2 : yv = .int m := ry
      subst e2
      refine .inr (.inl ⟨a, m, vs, rfl, rfl, e1, b1, b2, by rw [SZ_eq, ← r1.length]; exact sz, fun p hp => k _ _ (QL.lst r (r1.rep _) hp q)⟩)
    | _ => exact False.elim q
  | tup xs =>
    cases y with
    | int m =>
      obtain ⟨ne, b1, b2, sz, q⟩ := q
      obtain ⟨a, vs, rfl, s1, r1⟩ := rx
      have e2 : yv = .int m := ry
      subst e2
      refine .inr (.inr ⟨a, m, vs, rfl, rfl, s1, fun e => ne (r1.nil_iff.mpr e), b1, b2, by rw [← r1.length]; exact sz, fun p hp => k _ _ (QL.tup r (r1.rep _) hp q)⟩)
    | _ => exact False.elim q
  | _ => cases y <;> exact False.elim q
end

/-! ### unary -/
def mNeg : MR1 := fun x h Q => match x with
  | .int i => Q (.int (-i)) h
  | _ => False
theorem l_neg {X : Cx} : L1R X.K (rU fun i => .int (-i)) mNeg := by
  intro f mh H x xv Q' Q r rx q k
  cases x with
  | int i =>
    have e : xv = .int i := rx
    subst e
    exact ⟨i, rfl, k _ _ (QL.same r (m := .int (-i)) rfl q)⟩
  | _ => exact False.elim q
end Mn
end
section
set_option maxHeartbeats 2000000
namespace Mn
open PySem PySem.Spec PyProof.Rows L2

/-! ### room, the context -/
structure RoomG (k : Nat) (A : Around) : Prop where
  r : Room k A
  g : A.guards = some []
theorem RoomG.deeper {k : Nat} {A : Around} (r : RoomG (k + 1) A) (env : Env) : RoomG k (A.deeper env) := ⟨r.r.deeper env, r.g⟩
theorem RoomG.mono {j k : Nat} {A : Around} (r : RoomG k A) (h : j ≤ k) : RoomG j A := ⟨r.r.mono h, r.g⟩
structure CM (X : Cx) (W : WX) (k : Nat) : Prop where
  calm : X.calm = true
  tk : Takes X W
  po : PassesOwn (model X.prog X.w) X.A X.env X.xe
  rm : RoomG k X.A
  sm : ∃ o, X.K.lookup sysModules = some o
  nd : X.N.Nodup

/-! ### promises -/
def liftSp (K : PySem.W.Frag) (msp : MSp) : Sp := fun vs H Q E => ∃ f mh ms Q' E', RH K f mh H ∧ RVs K f H ms vs ∧ msp ms mh Q' E' ∧ (∀ v H', QL K f H Q' v H' → Q v H') ∧ (∀ cls d H', XL K f H E' cls d H' → E cls d H')
structure FnM (P : Program) (w : World) (K : PySem.W.Frag) (mg : Str → Option Value) (base : Heap) (k : Nat) (f : Addr) (fd : FuncData) (ps : List Str) (sp : MSp) : Prop where
  len : ∀ ms h Q E, sp ms h Q E → ms.length = ps.length
  run : ∀ (A : Around) (outer : List Env) (s : Shared) (H : Hp) (args : Args) (us : List Value) (vs : List V) (Q : VK) (E : XK), RoomG k A → Env0 P w K mg base A outer s H → BindsTo s fd args (ps.zip us) → Vals vs us → liftSp K sp vs H Q E →
    codeAny (model P w) A (.call (.ref f) args) (CR (L2.CX P w) outer P w H s Q E) s
theorem liftSp.len {K : PySem.W.Frag} {sp : MSp} {n : Nat} (h : ∀ ms h Q E, sp ms h Q E → ms.length = n) {vs : List V} {H : Hp} {Q : VK} {E : XK} (l : liftSp K sp vs H Q E) : vs.length = n := by
  obtain ⟨f, mh, ms, Q', E', _, r, q, _⟩ := l
  rw [← r.length]; exact h _ _ _ _ q
theorem FnM.mono {P : Program} {w : World} {K : PySem.W.Frag} {mg : Str → Option Value} {base : Heap} {j k : Nat} {f : Addr} {fd : FuncData} {ps : List Str} {sp : MSp} (F : FnM P w K mg base j f fd ps sp) (h : j ≤ k) : FnM P w K mg base k f fd ps sp :=
  ⟨F.len, fun A outer s H args us vs Q E r => F.run A outer s H args us vs Q E (r.mono h)⟩
/-- a weaker promise -/
theorem FnM.imp {P : Program} {w : World} {K : PySem.W.Frag} {mg : Str → Option Value} {base : Heap} {k : Nat} {f : Addr} {fd : FuncData} {ps : List Str} {sp sp' : MSp} (F : FnM P w K mg base k f fd ps sp) (h : ∀ ms mh Q E, sp' ms mh Q E → sp ms mh Q E) : FnM P w K mg base k f fd ps sp' :=
  ⟨fun ms mh Q E q => F.len _ _ _ _ (h _ _ _ _ q), fun A outer s H args us vs Q E r e b v ⟨f, mh, ms, Q', E', a1, a2, a3, a4, a5⟩ => F.run A outer s H args us vs Q E r e b v ⟨f, mh, ms, Q', E', a1, a2, h _ _ _ _ a3, a4, a5⟩⟩

/-- the slots at the entry -/
def startM (N : List Str) (ms : List M) : MS := ms.map some ++ List.replicate (N.length - ms.length) none
theorem start_rel {K : PySem.W.Frag} {f : List Addr} {H : Hp} {N : List Str} {ms : List M} {vs : List V} (r : RVs K f H ms vs) : RS K f H (startM N ms) (L2.start N vs) := by
  have l := r.length
  refine ⟨by simp [startM, L2.start, l], fun i m e => ?_⟩
  unfold startM at e
  unfold L2.start
  by_cases hi : i < ms.length
  · rw [List.getElem?_append_left (by simpa using hi)] at e
    rw [List.getElem?_map] at e
    cases q : ms[i]? with
    | none => rw [q] at e; cases e
    | some m' =>
      rw [q] at e
      have e' : m' = m := by simpa using e
      subst e'
      obtain ⟨v, h1, h2⟩ := r.get q
      refine ⟨v, ?_, h2⟩
      rw [List.getElem?_append_left (by simp; omega), List.getElem?_map, h1]; rfl
  · rw [List.getElem?_append_right (by simp; omega)] at e
    have z := List.mem_of_getElem? e
    have := (List.mem_replicate.mp z).2
    cases this

/-- a def's body, as the law's small world runs it -/
def runM (N : List Str) (n : Nat) (wb : MTS) : MSp := fun ms h Q E => ms.length = n ∧ wb { nx := fun _ h => Q .non h, rt := Q, bk := fun _ _ => False, ct := fun _ _ => False, xc := fun e _ h => E e h } (startM N ms) h
section
variable {P : Program} {w : World} {K : PySem.W.Frag} {mg : Str → Option Value} {base : Heap} {k : Nat} {f : Addr} {name qual : Str} {params : Arguments} {body : List Stmt} {scope : Scope} {N ps : List Str} {wb : MTS}
/-- the context of a def's body -/
abbrev cxM (P : Program) (w : World) (K : PySem.W.Frag) (mg : Str → Option Value) (base : Heap) (N : List Str) (qual : Str) (scope : Scope) (f : Addr) (cd : Value) (A : Around) (outer : List Env) (s : Shared) (H : Hp) (E : XK) : Cx := cxOf (L2.CX P w) P w K mg base N qual scope f cd A outer s H E
theorem cm_of {cd : Value} {A : Around} {outer : List Env} {s : Shared} {H : Hp} {E : XK} (sm : ∃ o, K.lookup sysModules = some o) (nd : N.Nodup) (r : RoomG k (A.deeper (envOfC qual scope s.heap.objs.size f cd))) :
    CM (cxM P w K mg base N qual scope f cd A outer s H E) (fun cls d _ H => E cls d H) k where
  calm := rfl
  tk := takes_of rfl rfl rfl rfl
  po := passes_of (E₁ := fun e' s'' => L2.CX P w outer H s E e' s'') rfl
  rm := r
  sm := sm
  nd := nd
theorem fnm_of {dvs : List V} {kws : List (Str × V)} {fd : FuncData} (F : FunD K name qual params body scope dvs kws f fd) (S : FnScope N ps scope) (sm : ∃ o, K.lookup sysModules = some o)
    (hbody : ∀ (cd : Value) (A : Around) (outer : List Env) (s : Shared) (H : Hp) (E : XK), CM (cxM P w K mg base N qual scope f cd A outer s H E) (fun cls d _ H => E cls d H) k →
      SsOk (cxM P w K mg base N qual scope f cd A outer s H E) (fun cls d _ H => E cls d H) body wb) :
    FnM P w K mg base (k + 1) f fd ps (runM N ps.length wb) where
  len := fun ms h Q E q => q.1
  run := fun A outer s H args us vs Q E hr e0 hb r h => by
    obtain ⟨oc, od, dV, kV, doc, pm, an, cdv, ct, osl, rfl, lk, hcd, _, _⟩ := F.ex
    have hl : vs.length = ps.length := liftSp.len (fun _ _ _ _ q => q.1) h
    refine LamX.run_ofS (k := k) lk hcd S hr.r e0 hb r hl fun hr' => ?_
    obtain ⟨fa, mh, ms, Q', E', h1, h2, ⟨_, h3⟩, h4, h5⟩ := h
    refine ⟨_, hbody cdv A outer s H E (cm_of sm S.nd (hr.deeper _)), fa, startM N ms, mh, { nx := fun _ h => Q' .non h, rt := Q', bk := fun _ _ => False, ct := fun _ _ => False, xc := fun e _ h => E' e h }, ⟨h1, start_rel h2, ?_, fun v H' q => h4 v H' q, ?_, ?_, ?_⟩, h3⟩
    · rintro σ' H' ⟨f', mh', sm', p, x, r', s', q⟩
      exact h4 _ _ ⟨f', mh', .non, p, x, r', rfl, q⟩
    · rintro σ' H' ⟨f', mh', sm', p, x, r', s', q⟩; exact q.elim
    · rintro σ' H' ⟨f', mh', sm', p, x, r', s', q⟩; exact q.elim
    · rintro cls d σ' H' ⟨f', mh', sm', C, ks, ms, us, dx, p, x, r', s', e1, e2, e3, l, rv, q⟩
      exact h5 _ _ _ ⟨f', mh', C, ks, ms, us, dx, p, x, r', e1, e2, e3, l, rv, q⟩
end

/-! ### arguments -/
def wNil : MTA := fun _ h Q _ => Q [] h
def wCons (w : MTE) (r : MTA) : MTA := fun sm h Q E => w sm h (fun m h1 => r sm h1 (fun ms h2 => Q (m :: ms) h2) E) E
section
variable {X : Cx} {W : WX} {e : Expr} {es : List Expr} {we : MTE} {wr : MTA}
theorem ma_nil : AOk X W [] wNil := PA.mono pa_nil fun σ H Q ⟨f, sm, mh, Q', E, a, q, k⟩ => k [] H ⟨f, mh, [], List.prefix_refl _, Ext.refl _, a.h, rfl, q⟩
theorem ma_cons (he : EOk X W e we) (hr : AOk X W es wr) (hs : starEach (e :: es) X.env = (false, eval e X.env) :: starEach es X.env := by rfl) : AOk X W (e :: es) (wCons we wr) :=
  PA.mono (pa_cons he hr hs) fun σ H Q ⟨f, sm, mh, Q', E, a, q, k⟩ =>
    a.go q fun f1 mh1 H1 m1 v1 p1 x1 a1 r1 q1 => a1.goA q1 fun f2 mh2 H2 m2 v2 p2 x2 a2 r2 q2 => k _ _ ⟨f2, mh2, m1 :: m2, p1.trans p2, x1.trans x2, a2.h, ⟨v1, v2, rfl, r1.mono p2 x2, r2⟩, q2⟩
/-! keywords -/
abbrev KOk (X : Cx) (W : WX) (kws : List Keyword) (w : MTA) : Prop := PK X kws (liftA X.K W w)
theorem PK.mono {kws : List Keyword} {t u : TA} (h : PK X kws t) (i : ∀ σ H Q, u σ H Q → t σ H Q) : PK X kws u := ⟨fun pos pins s σ H Q I q => h.run pos pins s σ H Q I (i σ H Q q)⟩
theorem mk_nil : KOk X W [] wNil := PK.mono pk_nil fun σ H Q ⟨f, sm, mh, Q', E, a, q, k⟩ => k [] H ⟨f, mh, [], List.prefix_refl _, Ext.refl _, a.h, rfl, q⟩
theorem mk_cons {kws : List Keyword} {nm : Option Str} {kpos : Pos} (he : EOk X W e we) (hr : KOk X W kws wr) : KOk X W (⟨nm, e, kpos⟩ :: kws) (wCons we wr) :=
  PK.mono (pk_cons he hr) fun σ H Q ⟨f, sm, mh, Q', E, a, q, k⟩ =>
    a.go q fun f1 mh1 H1 m1 v1 p1 x1 a1 r1 q1 => a1.goA q1 fun f2 mh2 H2 m2 v2 p2 x2 a2 r2 q2 => k _ _ ⟨f2, mh2, m1 :: m2, p1.trans p2, x1.trans x2, a2.h, ⟨v1, v2, rfl, r1.mono p2 x2, r2⟩, q2⟩
end

/-! ### the call of a def -/
/-- how a call binds: n positional values us, the keywords' values ws (names ks); g: all in the parameters' order -/
structure KBm (K : PySem.W.Frag) (fd : FuncData) (ps : List Str) (n : Nat) (ks : List Str) (g : List Value → List Value → List Value) (gM : List M → List M → List M) : Prop where
  to : ∀ (s : Shared) (us ws : List Value), K.In s.heap → us.length = n → ws.length = ks.length → BindsTo s fd ⟨us, ks.zip ws⟩ (ps.zip (g us ws))
  rel : ∀ (f : List Addr) (H : Hp) (ms ns : List M) (vs zs : List V) (us ws : List Value), ms.length = n → ns.length = ks.length → RVs K f H ms vs → RVs K f H ns zs → Vals vs us → Vals zs ws → ∃ gv, Vals gv (g us ws) ∧ RVs K f H (gM ms ns) gv
def wCall (sp : MSp) (n : Nat) (wa : MTA) : MTE := fun sm h Q E => wa sm h (fun ms h1 => ms.length = n ∧ sp ms h1 Q E) E
def wCallK (sp : MSp) (gM : List M → List M → List M) (n m : Nat) (wa wk : MTA) : MTE := fun sm h Q E => wa sm h (fun ms h1 => wk sm h1 (fun ns h2 => ms.length = n ∧ ns.length = m ∧ sp (gM ms ns) h2 Q E) E) E
section
variable {X : Cx} {W : WX} {k : Nat} {f : Addr} {fd : FuncData} {ps ks : List Str} {sp : MSp} {n : Nat} {g : List Value → List Value → List Value} {gM : List M → List M → List M}
theorem fnm_run {pins : List (Addr × Obj)} {σ : L2.St} {H : Hp} {s : Shared} {Q : VK} {us ws : List Value} {vs zs : List V} {fa : List Addr} {sm : MS} {mh : MH} {ms ns : List M} {Q' : KM} {E : KM} (F : FnM X.prog X.w X.K X.mg X.base k f fd ps sp) (c : CM X W k) (hb : KBm X.K fd ps n ks g gM)
    (I : Inv X pins σ H s) (a : At X.K W fa sm mh σ H E) (r : Vals vs us) (rz : Vals zs ws) (rm : RVs X.K fa H ms vs) (rn : RVs X.K fa H ns zs) (l1 : ms.length = n) (l2 : ns.length = ks.length) (h : sp (gM ms ns) mh Q' E) (hQ : ∀ v H', QL X.K fa H Q' v H' → Q v H') :
    wpAny (model X.prog X.w) X.A (call (.ref f) us (ks.zip ws)) (EP X pins σ Q) X.xe s := by
  obtain ⟨gv, g1, g2⟩ := hb.rel fa H ms ns vs zs us ws l1 l2 rm rn r rz
  refine wpAny_call (codeAny_mono (F.run X.A X.stack s H ⟨us, ks.zip ws⟩ (g us ws) gv Q (fun cls d H' => W cls d σ H') c.rm I.env0
    (hb.to s us ws I.kIn (by rw [← r.length, ← rm.length]; exact l1) (by rw [← rz.length, ← rn.length]; exact l2)) g1 ⟨fa, mh, _, Q', E, a.h, g2, h, hQ, a.e⟩) fun r s' hq => ?_)
  cases r with
  | error e => exact c.tk e s' (XE.of_call I (fun cls d H' q => q) hq)
  | ok fl =>
    cases fl with
    | ret u => exact I.after hq
    | next => exact False.elim hq
    | brk => exact False.elim hq
    | cont => exact False.elim hq
variable {x : Str} {p pos : Pos} {e : Expr} {es : List Expr} {kws : List Keyword} {wa wk : MTA}
theorem PE.run' {w : MTE} (h : EOk X W e w) : ∀ (pins : List (Addr × Obj)) (s : Shared) (σ : L2.St) (H : Hp) (Q : VK), Inv X pins σ H s → liftE X.K W w σ H Q → wpAny (model X.prog X.w) X.A (eval e X.env) (EP X pins σ Q) X.xe s := h.run
/-- f(e, ..) -/
theorem m_call (F : FnM X.prog X.w X.K X.mg X.base k f fd ps sp) (c : CM X W k) (hg : Gl X x) (hm : X.mg x = some (.ref f)) (hk : PySem.W.keepIn X.K (.ref f) = true) (hb : KBm X.K fd ps n [] g gM)
    (ha : AOk X W (e :: es) wa) (hdb : (x == ("__debug__" : Str)) = false := by decide) (he : starEach (e :: es) X.env = (false, eval e X.env) :: starEach es X.env := by rfl) (hpl : (backTo pos (starEach es X.env)).any (·.1) = false := by rfl) :
    EOk X W (.Call (.Name x p) (e :: es) [] pos) (wCall (fun ms => sp (gM ms [])) n wa) := by
  refine ⟨fun pins s σ H Q I h => ?_⟩
  obtain ⟨fa, sm, mh, Q', E, a, q, hQ⟩ := h
  refine wpAny_Call_Name_kw (ld_glob I hg hm ?_ hdb)
  refine PySem.W.callWith_K (h₀ := X.base) I.ok.mod.kin hk (thn (ha.run pos pins s σ H _ I ⟨fa, sm, mh, _, E, a, q, fun v H' z => z⟩) fun us s1 ⟨vs, H1, I1, r, f1, mh1, ms, p1, x1, r1, rm, l1, q1⟩ => ⟨I1.kIn, ?_⟩) he hpl
  exact fnm_run (ks := []) (ws := []) (zs := []) (ns := []) F c hb I1 (a.step p1 x1 r1) r .nil rm rfl l1 rfl q1 fun v H' z => hQ v H' (z.back p1 x1)
/-- f() -/
theorem m_call0 (F : FnM X.prog X.w X.K X.mg X.base k f fd ps sp) (c : CM X W k) (hg : Gl X x) (hm : X.mg x = some (.ref f)) (hk : PySem.W.keepIn X.K (.ref f) = true) (hb : KBm X.K fd ps 0 [] g gM)
    (hdb : (x == ("__debug__" : Str)) = false := by decide) : EOk X W (.Call (.Name x p) [] [] pos) (wCall (fun ms => sp (gM ms [])) 0 wNil) := by
  refine ⟨fun pins s σ H Q I h => ?_⟩
  obtain ⟨fa, sm, mh, Q', E, a, ⟨l1, q⟩, hQ⟩ := h
  refine wpAny_Call_Name_kw (ld_glob I hg hm ?_ hdb)
  refine PySem.W.callWith_K0 I.kIn hk ?_
  exact fnm_run (us := []) (vs := []) (ms := []) (ks := []) (ws := []) (zs := []) (ns := []) F c hb I a .nil .nil rfl rfl rfl rfl q hQ
/-- f(e, .., k = v, ..) -/
theorem m_callK (F : FnM X.prog X.w X.K X.mg X.base k f fd ps sp) (c : CM X W k) (hg : Gl X x) (hm : X.mg x = some (.ref f)) (hk : PySem.W.keepIn X.K (.ref f) = true) (hb : KBm X.K fd ps n ks g gM)
    (ha : AOk X W (e :: es) wa) (hkw : KOk X W kws wk) (hall : (backToKw pos (keywordEach kws X.env)).all (·.1.isSome) = true := by rfl) (hks : (backToKw pos (keywordEach kws X.env)).filterMap (·.1) = ks := by rfl)
    (hdb : (x == ("__debug__" : Str)) = false := by decide) (he : starEach (e :: es) X.env = (false, eval e X.env) :: starEach es X.env := by rfl)
    (hpl : ((backTo pos (starEach (e :: es) X.env)).any (·.1) || (backToKw pos (keywordEach kws X.env)).any (·.1.isNone)) = false := by rfl) :
    EOk X W (.Call (.Name x p) (e :: es) kws pos) (wCallK sp gM n ks.length wa wk) := by
  refine ⟨fun pins s σ H Q I h => ?_⟩
  obtain ⟨fa, sm, mh, Q', E, a, q, hQ⟩ := h
  refine wpAny_Call_Name_kw (ld_glob I hg hm ?_ hdb)
  refine PySem.W.callWith_KW (h₀ := X.base) I.ok.mod.kin hk hall (thn (ha.run pos pins s σ H _ I ⟨fa, sm, mh, _, E, a, q, fun v H' z => z⟩) fun us s1 ⟨vs, H1, I1, r, f1, mh1, ms, p1, x1, r1, rm, q1⟩ => ?_) hpl he
  have a1 := a.step p1 x1 r1
  refine thn (hkw.run pos pins s1 σ H1 _ I1 ⟨f1, sm, mh1, _, E, a1, q1, fun v H' z => z⟩) fun ws s2 ⟨zs, H2, I2, rz, f2, mh2, ns, p2, x2, r2, rn, l1, l2, q2⟩ => ⟨I2.kIn, ?_⟩
  rw [hks]
  exact fnm_run F c hb I2 (a1.step p2 x2 r2) r rz (rm.mono p2 x2) rn l1 l2 q2 fun v H' z => hQ v H' ((z.back p2 x2).back p1 x1)
/-- f(k = v, ..) -/
theorem m_callK0 (F : FnM X.prog X.w X.K X.mg X.base k f fd ps sp) (c : CM X W k) (hg : Gl X x) (hm : X.mg x = some (.ref f)) (hk : PySem.W.keepIn X.K (.ref f) = true) (hb : KBm X.K fd ps 0 ks g gM)
    (hkw : KOk X W kws wk) (hall : (backToKw pos (keywordEach kws X.env)).all (·.1.isSome) = true := by rfl) (hks : (backToKw pos (keywordEach kws X.env)).filterMap (·.1) = ks := by rfl)
    (hdb : (x == ("__debug__" : Str)) = false := by decide)
    (hpl : ((backTo pos (starEach [] X.env)).any (·.1) || (backToKw pos (keywordEach kws X.env)).any (·.1.isNone)) = false := by rfl) :
    EOk X W (.Call (.Name x p) [] kws pos) (wCallK sp gM 0 ks.length wNil wk) := by
  refine ⟨fun pins s σ H Q I h => ?_⟩
  obtain ⟨fa, sm, mh, Q', E, a, q, hQ⟩ := h
  refine wpAny_Call_Name_kw (ld_glob I hg hm ?_ hdb)
  refine PySem.W.callWith_KW0 (h₀ := X.base) I.ok.mod.kin hk hall (thn (hkw.run pos pins s σ H _ I ⟨fa, sm, mh, _, E, a, q, fun v H' z => z⟩) fun ws s2 ⟨zs, H2, I2, rz, f2, mh2, ns, p2, x2, r2, rn, l1, l2, q2⟩ => ⟨I2.kIn, ?_⟩) hpl
  rw [hks]
  exact fnm_run (us := []) (vs := []) (ms := []) F c hb I2 (a.step p2 x2 r2) .nil rz rfl rn rfl l2 q2 fun v H' z => hQ v H' (z.back p2 x2)
end
end Mn
end
section
set_option maxHeartbeats 2000000
namespace Mn
open PySem PySem.Spec PyProof.Rows L2

/-! ### truth, tests -/
def truM (h : MH) : M → Option Bool
  | .non => some false
  | .bl b => some b
  | .int i => some (i != 0)
  | .str s => some ((s.length : Int) != 0)
  | .tup xs => some (!xs.isEmpty)
  | .ref n => match h[n]? with
    | some (.lst xs) => some (!xs.isEmpty)
    | _ => none
  | _ => none
def wTru (w : MTE) : MTT := fun sm h Q E => w sm h (fun m h1 => ∃ b, truM h1 m = some b ∧ Q b h1) E
def wTst (w : MTE) : MTT := fun sm h Q E => w sm h (fun m h1 => ∃ b, m = .bl b ∧ Q b h1) E
def wAndT (t u : MTT) : MTT := fun sm h Q E => t sm h (fun b h1 => if b = true then u sm h1 Q E else Q false h1) E
def wOrT (t u : MTT) : MTT := fun sm h Q E => t sm h (fun b h1 => if b = true then Q true h1 else u sm h1 Q E) E
def wNotT (t : MTT) : MTT := fun sm h Q E => t sm h (fun b h1 => Q (!b) h1) E
def wAndV (a b : MTE) : MTE := fun sm h Q E => a sm h (fun x h1 => ∃ c, x = .bl c ∧ if c = true then b sm h1 Q E else Q (.bl false) h1) E
def wOrV (a b : MTE) : MTE := fun sm h Q E => a sm h (fun x h1 => ∃ c, x = .bl c ∧ if c = true then Q (.bl true) h1 else b sm h1 Q E) E
def wNotV (t : MTT) : MTE := fun sm h Q E => t sm h (fun b h1 => Q (.bl (!b)) h1) E
def wIfE (t : MTT) (a b : MTE) : MTE := fun sm h Q E => t sm h (fun c h1 => if c = true then a sm h1 Q E else b sm h1 Q E) E
def wChain (r r' : MR2) (a b c : MTE) : MTE := fun sm h Q E => a sm h (fun x h1 => b sm h1 (fun y h2 => r x y h2 (fun z h3 => ∃ k, z = .bl k ∧ if k = true then c sm h3 (fun w h4 => r' y w h4 Q) E else Q (.bl false) h3)) E) E
section
variable {K : PySem.W.Frag} {f : List Addr} {mh : MH} {H : Hp}
theorem truM_ok (r : RH K f mh H) {m : M} {v : V} {b : Bool} (rv : RV K f H m v) (h : truM mh m = some b) (sz : ∀ s, m = .str s → s.length ≤ sizeLine := by intro s e; cases e) : TruV K v H b := by
  cases m with
  | non => have e : v = .non := rv; subst e; exact (by simpa [truM] using h.symm : b = false)
  | bl c => have e : v = .bl c := rv; subst e; exact (by simpa [truM] using h.symm : b = c)
  | int i => have e : v = .int i := rv; subst e; exact (by simpa [truM] using h.symm : b = (i != 0))
  | str s => have e : v = .str s := rv; subst e; exact ⟨sz s rfl, by simpa [truM] using h.symm⟩
  | tup xs =>
    obtain ⟨a, vs, rfl, s, r1⟩ := rv
    refine .inr (.inl ⟨vs, s, ?_⟩)
    have : (!xs.isEmpty) = b := by simpa [truM] using h
    rw [← this]
    cases xs <;> cases vs <;> first | rfl | (have := r1.length; simp at this)
  | ref n =>
    have h : (match mh[n]? with | some (.lst xs) => some (!xs.isEmpty) | _ => none) = some b := h
    cases q : mh[n]? with
    | none => rw [q] at h; cases h
    | some o =>
      rw [q] at h
      cases o with
      | lst xs =>
        obtain ⟨a, vs, rfl, ha, e1, r1⟩ := r.lst q rv
        refine .inl ⟨vs, .of e1, ?_⟩
        have : (!xs.isEmpty) = b := by simpa using h
        rw [← this]
        cases xs <;> cases vs <;> first | rfl | (have := r1.length; simp at this)
      | _ => cases h
  | _ => cases h
end
section
variable {X : Cx} {W : WX} {a b c : Expr} {wa wb wc : MTE} {ta tb : MTT} {pos : Pos} {rest : List Expr}
/-- a value that is no text, as a test -/
theorem t_tru (ha : EOk X W a wa) (he : ∀ whole, isTrue a X.env whole = (do let v ← whole; standAt a.pos; holding [v] (truthy v)) := by intro _; rfl) : TOk X W a (fun sm h Q E => wa sm h (fun m h1 => (∀ s, m ≠ .str s) ∧ ∃ b, truM h1 m = some b ∧ Q b h1) E) :=
  PT.mono (pt_truth ha he) fun σ H Q ⟨f, sm, mh, Q', E, a, q, k⟩ =>
    a.go q fun f1 mh1 H1 m v p x a1 r1 ⟨ns, d, h1, q1⟩ => ⟨d, truM_ok a1.h r1 h1 (fun s e => absurd e (ns s)), k _ _ ⟨f1, mh1, p, x, a1.h, q1⟩⟩
theorem TOk.mono {w w' : MTT} (h : TOk X W a w) (i : ∀ sm mh Q E, w' sm mh Q E → w sm mh Q E) : TOk X W a w' := PT.mono h fun σ H Q ⟨f, sm, mh, Q', E, a, q, k⟩ => ⟨f, sm, mh, Q', E, a, i _ _ _ _ q, k⟩
/-- a value that is a bool, as a test -/
theorem t_val (ha : EOk X W a wa) (he : ∀ whole, isTrue a X.env whole = (do let v ← whole; standAt a.pos; holding [v] (truthy v)) := by intro _; rfl) : TOk X W a (wTst wa) :=
  PT.mono (pt_val ha he) fun σ H Q ⟨f, sm, mh, Q', E, a, q, k⟩ =>
    a.go q fun f1 mh1 H1 m v p x a1 r1 ⟨d, h1, q1⟩ => by
      subst h1
      exact ⟨d, r1, k _ _ ⟨f1, mh1, p, x, a1.h, q1⟩⟩
theorem t_cmp {op : CmpOp} {r : R2} {m : MR2} (ho : OpR X (compareOp op) r) (l : L2R X.K r m) (ha : EOk X W a wa) (hb : EOk X W b wb) (hm : behindInMarks op b = false) : TOk X W (.Compare a [op] [b] pos) (wTst (wOp m wa wb)) :=
  PT.mono (pt_cmpR ho ha hb hm) fun σ H Q ⟨f, sm, mh, Q', E, a, q, k⟩ =>
    a.go q fun f1 mh1 H1 m1 v1 p1 x1 a1 r1 q1 => a1.go q1 fun f2 mh2 H2 m2 v2 p2 x2 a2 r2 q2 =>
      l f2 mh2 H2 m1 m2 v1 v2 _ _ a2.h (r1.mono p2 x2) r2 q2 fun v H' ⟨f3, mh3, m3, p3, x3, r3, rv3, d, e, q3⟩ => by
        subst e
        exact ⟨d, rv3, k _ _ ⟨f3, mh3, (p1.trans p2).trans p3, (x1.trans x2).trans x3, r3, q3⟩⟩
theorem m_chain {op op' : CmpOp} {r r' : R2} {m m' : MR2} (ho : OpR X (compareOp op) r) (l : L2R X.K r m) (ho' : OpR X (compareOp op') r') (l' : L2R X.K r' m') (ha : EOk X W a wa) (hb : EOk X W b wb) (hc : EOk X W c wc)
    (hm : lastMarks [op, op'] [b, c] = false := by with_unfolding_all rfl) : EOk X W (.Compare a [op, op'] [b, c] pos) (wChain m m' wa wb wc) :=
  PE.mono (pe_chain ho ho' ha hb hc hm) fun σ H Q ⟨f, sm, mh, Q', E, a, q, k⟩ =>
    a.go q fun f1 mh1 H1 m1 v1 p1 x1 a1 r1 q1 => a1.go q1 fun f2 mh2 H2 m2 v2 p2 x2 a2 r2 q2 =>
      l f2 mh2 H2 m1 m2 v1 v2 _ _ a2.h (r1.mono p2 x2) r2 q2 fun v H' ⟨f3, mh3, m3, p3, x3, r3, rv3, d, e, q3⟩ => by
        subst e
        refine ⟨d, rv3, ?_⟩
        cases d with
        | true =>
          exact (a2.step p3 x3 r3).go q3 fun f4 mh4 H4 m4 v4 p4 x4 a4 r4 q4 => l' f4 mh4 H4 m2 m4 v2 v4 _ _ a4.h ((r2.mono p3 x3).mono p4 x4) r4 q4 fun v H5 z => k _ _ ((((z.back p4 x4).back p3 x3).back p2 x2).back p1 x1)
        | false => exact k _ _ ⟨f3, mh3, .bl false, (p1.trans p2).trans p3, (x1.trans x2).trans x3, r3, rfl, q3⟩
theorem t_chain {op op' : CmpOp} {r r' : R2} {m m' : MR2} (ho : OpR X (compareOp op) r) (l : L2R X.K r m) (ho' : OpR X (compareOp op') r') (l' : L2R X.K r' m') (ha : EOk X W a wa) (hb : EOk X W b wb) (hc : EOk X W c wc)
    (hm : lastMarks [op, op'] [b, c] = false := by with_unfolding_all rfl) : TOk X W (.Compare a [op, op'] [b, c] pos) (wTst (wChain m m' wa wb wc)) :=
  PT.mono (pt_chain ho ho' ha hb hc hm) fun σ H Q ⟨f, sm, mh, Q', E, a, q, k⟩ =>
    a.go q fun f1 mh1 H1 m1 v1 p1 x1 a1 r1 q1 => a1.go q1 fun f2 mh2 H2 m2 v2 p2 x2 a2 r2 q2 =>
      l f2 mh2 H2 m1 m2 v1 v2 _ _ a2.h (r1.mono p2 x2) r2 q2 fun v H' ⟨f3, mh3, m3, p3, x3, r3, rv3, d, e, q3⟩ => by
        subst e
        refine ⟨d, rv3, ?_⟩
        cases d with
        | true =>
          exact (a2.step p3 x3 r3).go q3 fun f4 mh4 H4 m4 v4 p4 x4 a4 r4 q4 => l' f4 mh4 H4 m2 m4 v2 v4 _ _ a4.h ((r2.mono p3 x3).mono p4 x4) r4 q4 fun v H5 ⟨f5, mh5, m5, p5, x5, r5, rv5, d5, e5, q5⟩ => by
            subst e5
            exact ⟨d5, rv5, k _ _ ⟨f5, mh5, (((p1.trans p2).trans p3).trans p4).trans p5, (((x1.trans x2).trans x3).trans x4).trans x5, r5, q5⟩⟩
        | false =>
          obtain ⟨b', e', q'⟩ := q3
          cases e'
          exact ⟨false, rfl, k _ _ ⟨f3, mh3, (p1.trans p2).trans p3, (x1.trans x2).trans x3, r3, q'⟩⟩
/-! and, or, not -/
structure WOk (X : Cx) (W : WX) (e : Expr) (w : MTT) : Prop where
  w : PW X e (liftT X.K W w)
theorem w_and1 (ha : TOk X W a ta) : WOk X W (.BoolOp .And [a] pos) ta := ⟨pw_and1 ha⟩
theorem w_or1 (ha : TOk X W a ta) : WOk X W (.BoolOp .Or [a] pos) ta := ⟨pw_or1 ha⟩
theorem PW.mono {e : Expr} {t u : TT} (h : PW X e t) (i : ∀ σ H Q, u σ H Q → t σ H Q) : PW X e u := ⟨fun wh pins s σ H Q I q => h.run wh pins s σ H Q I (i σ H Q q)⟩
theorem w_and (ha : TOk X W a ta) (hb : WOk X W (.BoolOp .And (b :: rest) pos) tb) : WOk X W (.BoolOp .And (a :: b :: rest) pos) (wAndT ta tb) :=
  ⟨PW.mono (pw_and ha hb.w) fun σ H Q ⟨f, sm, mh, Q', E, a, q, k⟩ => a.goT q fun f1 mh1 H1 d p x a1 q1 => by
    cases d with
    | true => exact ⟨f1, sm, mh1, Q', E, a1, q1, fun v H' z => k v H' (z.back p x)⟩
    | false => exact k _ _ ⟨f1, mh1, p, x, a1.h, q1⟩⟩
theorem w_or (ha : TOk X W a ta) (hb : WOk X W (.BoolOp .Or (b :: rest) pos) tb) : WOk X W (.BoolOp .Or (a :: b :: rest) pos) (wOrT ta tb) :=
  ⟨PW.mono (pw_or ha hb.w) fun σ H Q ⟨f, sm, mh, Q', E, a, q, k⟩ => a.goT q fun f1 mh1 H1 d p x a1 q1 => by
    cases d with
    | false => exact ⟨f1, sm, mh1, Q', E, a1, q1, fun v H' z => k v H' (z.back p x)⟩
    | true => exact k _ _ ⟨f1, mh1, p, x, a1.h, q1⟩⟩
theorem t_w {e : Expr} (h : WOk X W e ta) : TOk X W e ta := h.w.pt
theorem t_not (ha : TOk X W a ta) : TOk X W (.UnaryOp .Not a pos) (wNotT ta) :=
  PT.mono (pt_not ha) fun σ H Q ⟨f, sm, mh, Q', E, a, q, k⟩ => a.goT q fun f1 mh1 H1 d p x a1 q1 => k _ _ ⟨f1, mh1, p, x, a1.h, q1⟩
theorem m_and1 {op : BoolOp} (h : EOk X W a wa) : EOk X W (.BoolOp op [a] pos) wa := pe_one h
theorem m_and (ha : EOk X W a wa) (hb : EOk X W (.BoolOp .And (b :: rest) pos) wb) : EOk X W (.BoolOp .And (a :: b :: rest) pos) (wAndV wa wb) :=
  PE.mono (pe_and ha hb) fun σ H Q ⟨f, sm, mh, Q', E, a, q, k⟩ => a.go q fun f1 mh1 H1 m v p x a1 r1 ⟨c, e, q1⟩ => by
    subst e
    refine ⟨c, r1, ?_⟩
    cases c with
    | true => exact ⟨f1, sm, mh1, Q', E, a1, q1, fun v H' z => k v H' (z.back p x)⟩
    | false => exact k _ _ ⟨f1, mh1, .bl false, p, x, a1.h, rfl, q1⟩
theorem m_or (ha : EOk X W a wa) (hb : EOk X W (.BoolOp .Or (b :: rest) pos) wb) : EOk X W (.BoolOp .Or (a :: b :: rest) pos) (wOrV wa wb) :=
  PE.mono (pe_or ha hb) fun σ H Q ⟨f, sm, mh, Q', E, a, q, k⟩ => a.go q fun f1 mh1 H1 m v p x a1 r1 ⟨c, e, q1⟩ => by
    subst e
    refine ⟨c, r1, ?_⟩
    cases c with
    | false => exact ⟨f1, sm, mh1, Q', E, a1, q1, fun v H' z => k v H' (z.back p x)⟩
    | true => exact k _ _ ⟨f1, mh1, .bl true, p, x, a1.h, rfl, q1⟩
theorem m_not (ha : EOk X W a wa) : EOk X W (.UnaryOp .Not a pos) (fun sm h Q E => wa sm h (fun x h1 => ∃ c, x = .bl c ∧ Q (.bl (!c)) h1) E) :=
  PE.mono (pe_not ha) fun σ H Q ⟨f, sm, mh, Q', E, a, q, k⟩ => a.go q fun f1 mh1 H1 m v p x a1 r1 ⟨c, e, q1⟩ => by
    subst e
    exact ⟨c, r1, k _ _ ⟨f1, mh1, .bl (!c), p, x, a1.h, rfl, q1⟩⟩
theorem m_ifE (hc : TOk X W c ta) (ha : EOk X W a wa) (hb : EOk X W b wb) : EOk X W (.IfExp c a b pos) (wIfE ta wa wb) :=
  PE.mono (pe_ifExp hc ha hb) fun σ H Q ⟨f, sm, mh, Q', E, a, q, k⟩ => a.goT q fun f1 mh1 H1 d p x a1 q1 => by
    cases d with
    | true => exact ⟨f1, sm, mh1, Q', E, a1, q1, fun v H' z => k v H' (z.back p x)⟩
    | false => exact ⟨f1, sm, mh1, Q', E, a1, q1, fun v H' z => k v H' (z.back p x)⟩
end

/-! ### statements -/
def wNext : MTS := fun D sm h => D.nx sm h
def wSeq (t u : MTS) : MTS := fun D sm h => t { D with nx := fun sm1 h1 => u D sm1 h1 } sm h
def wBrk : MTS := fun D sm h => D.bk sm h
def wCnt : MTS := fun D sm h => D.ct sm h
def wDrop (w : MTE) : MTS := fun D sm h => w sm h (fun _ h1 => D.nx sm h1) (fun e h1 => D.xc e sm h1)
def wRet (w : MTE) : MTS := fun D sm h => w sm h D.rt (fun e h1 => D.xc e sm h1)
def wIf (t : MTT) (a b : MTS) : MTS := fun D sm h => t sm h (fun c h1 => if c = true then a D sm h1 else b D sm h1) (fun e h1 => D.xc e sm h1)
abbrev MTG := M → MS → MH → (MS → MH → Prop) → Prop
abbrev MTGs := List M → MS → MH → (MS → MH → Prop) → Prop
def liftG (K : PySem.W.Frag) (g : MTG) : TG := fun v σ H Q => ∃ f sm mh m Q', RH K f mh H ∧ RS K f H sm σ ∧ RV K f H m v ∧ g m sm mh Q' ∧ ∀ σ' H', SL K f H Q' σ' H' → Q σ' H'
def liftGs (K : PySem.W.Frag) (g : MTGs) : TGs := fun vs σ H Q => ∃ f sm mh ms Q', RH K f mh H ∧ RS K f H sm σ ∧ RVs K f H ms vs ∧ g ms sm mh Q' ∧ ∀ σ' H', SL K f H Q' σ' H' → Q σ' H'
abbrev GOk (X : Cx) (e : Expr) (g : MTG) : Prop := PG X e (liftG X.K g)
abbrev GsOk (X : Cx) (es : List Expr) (g : MTGs) : Prop := PGs X es (liftGs X.K g)
def gN (i : Nat) : MTG := fun m sm h Q => Q (sm.set i (some m)) h
def gT (n : Nat) (g : MTGs) : MTG := fun m sm h Q => ∃ xs, m = .tup xs ∧ xs.length = n ∧ g xs sm h Q
def gL (n : Nat) (g : MTGs) : MTG := fun m sm h Q => ∃ k xs, m = .ref k ∧ h[k]? = some (.lst xs) ∧ xs.length = n ∧ g xs sm h Q
def gsNil : MTGs := fun ms sm h Q => ms = [] ∧ Q sm h
def gsCons (g : MTG) (r : MTGs) : MTGs := fun ms sm h Q => ∃ m l, ms = m :: l ∧ g m sm h fun sm1 h1 => r l sm1 h1 Q
def wAsg (w : MTE) (g : MTG) : MTS := fun D sm h => w sm h (fun m h1 => g m sm h1 D.nx) (fun e h1 => D.xc e sm h1)
def wAug (i : Nat) (w : MTE) (r : MR2) : MTS := fun D sm h => ∃ m, sm[i]? = some (some m) ∧ w sm h (fun y h1 => r m y h1 fun z h2 => D.nx (sm.set i (some z)) h2) (fun e h1 => D.xc e sm h1)
section
variable {X : Cx} {W : WX} {st : Stmt} {rest : List Stmt} {t u : MTS} {e : Expr} {we : MTE} {pos : Pos}
theorem s_nil : SsOk X W [] wNext := PSs.mono pss_nil fun D σ H ⟨f, sm, mh, D', a, q⟩ => a.nx _ _ ⟨f, mh, sm, List.prefix_refl _, Ext.refl _, a.h, a.s, q⟩
theorem s_cons (h1 : SOk X W st t) (h2 : SsOk X W rest u) : SsOk X W (st :: rest) (wSeq t u) :=
  PSs.mono (pss_cons h1 h2) fun D σ H ⟨f, sm, mh, D', a, q⟩ =>
    ⟨f, sm, mh, { D' with nx := fun sm1 h1 => u D' sm1 h1 }, ⟨a.h, a.s, fun σ' H' ⟨f1, mh1, sm1, p, x, r, s, q1⟩ => ⟨f1, sm1, mh1, D', a.step p x r s, q1⟩, a.rt, a.bk, a.ct, a.xc⟩, q⟩
theorem s_one (h1 : SOk X W st t) : SsOk X W [st] t := pss_one h1
theorem s_pass : SOk X W (.Pass pos) wNext := PS.mono ps_pass fun D σ H ⟨f, sm, mh, D', a, q⟩ => a.nx _ _ ⟨f, mh, sm, List.prefix_refl _, Ext.refl _, a.h, a.s, q⟩
theorem s_break : SOk X W (.Break pos) wBrk := PS.mono ps_break fun D σ H ⟨f, sm, mh, D', a, q⟩ => a.bk _ _ ⟨f, mh, sm, List.prefix_refl _, Ext.refl _, a.h, a.s, q⟩
theorem s_cont : SOk X W (.Continue pos) wCnt := PS.mono ps_continue fun D σ H ⟨f, sm, mh, D', a, q⟩ => a.ct _ _ ⟨f, mh, sm, List.prefix_refl _, Ext.refl _, a.h, a.s, q⟩
theorem s_expr (he : EOk X W e we) (hs : swapsWith e none pos.line X.env = pure false := by rfl) : SOk X W (.Expr e pos) (wDrop we) :=
  PS.mono (ps_expr he hs) fun D σ H ⟨f, sm, mh, D', a, q⟩ => a.at.go q fun f1 mh1 H1 m v p x a1 r1 q1 => a.nx _ _ ⟨f1, mh1, sm, p, x, a1.h, a1.s, q1⟩
theorem s_ret (he : EOk X W e we) : SOk X W (.Return (some e) pos) (wRet we) :=
  PS.mono (ps_ret he) fun D σ H ⟨f, sm, mh, D', a, q⟩ => ⟨f, sm, mh, _, _, a.at, q, a.rt⟩
theorem s_if {c : Expr} {a b : List Stmt} {wc : MTT} (hc : TOk X W c wc) (ha : SsOk X W a t) (hb : SsOk X W b u) : SOk X W (.If c a b pos) (wIf wc t u) :=
  PS.mono (ps_if hc ha hb) fun D σ H ⟨f, sm, mh, D', a, q⟩ => a.at.goT q fun f1 mh1 H1 d p x a1 q1 => by
    cases d with
    | true => exact ⟨f1, sm, mh1, D', a.step p x a1.h a1.s, q1⟩
    | false => exact ⟨f1, sm, mh1, D', a.step p x a1.h a1.s, q1⟩
/-! targets -/
theorem PG.mono {t u : TG} (h : PG X e t) (i : ∀ v σ H Q, u v σ H Q → t v σ H Q) : PG X e u := ⟨fun pins s σ H v w Q I r q => h.run pins s σ H v w Q I r (i v σ H Q q)⟩
theorem PGs.mono {es : List Expr} {t u : TGs} (h : PGs X es t) (i : ∀ v σ H Q, u v σ H Q → t v σ H Q) : PGs X es u := ⟨fun pins s σ H v w Q I r q => h.run pins s σ H v w Q I r (i v σ H Q q)⟩
theorem g_name {i : Nat} {x : Str} (hN : X.N.Nodup) (hi : X.N[i]? = some x) (hx : Loc X.env.scope x) (hf : X.fn x = true ∨ X.env.scope.names.lookup x = some .local) : GOk X (.Name x pos) (gN i) :=
  PG.mono (pg_name hN hi hx hf) fun v σ H Q ⟨f, sm, mh, m, Q', r, s, rv, q, k⟩ => k _ _ ⟨f, mh, _, List.prefix_refl _, Ext.refl _, r, s.set rv, q⟩
theorem gs_nil : GsOk X [] gsNil := PGs.mono pgs_nil fun v σ H Q ⟨f, sm, mh, ms, Q', r, s, rv, ⟨e, q⟩, k⟩ => by
  subst e
  have : v = [] := rv
  subst this
  exact ⟨rfl, k _ _ ⟨f, mh, sm, List.prefix_refl _, Ext.refl _, r, s, q⟩⟩
theorem gs_cons {es : List Expr} {g : MTG} {gr : MTGs} (h1 : GOk X e g) (h2 : GsOk X es gr)
    (hs : (assignEach (e :: es) X.env).map (·.2) = assign e X.env :: (assignEach es X.env).map (·.2) := by rfl) : GsOk X (e :: es) (gsCons g gr) :=
  PGs.mono (pgs_cons h1 h2 hs) fun v σ H Q ⟨f, sm, mh, ms, Q', r, s, rv, ⟨m, l, e, q⟩, k⟩ => by
    subst e
    obtain ⟨v1, vr, rfl, r1, rr⟩ := rv
    refine ⟨v1, vr, rfl, f, sm, mh, m, _, r, s, r1, q, ?_⟩
    rintro σ1 H1 ⟨f1, mh1, sm1, p1, x1, r1, s1, q1⟩
    exact ⟨f1, sm1, mh1, l, Q', r1, s1, rr.mono p1 x1, q1, fun σ2 H2 z => k _ _ (z.back p1 x1)⟩
theorem g_tup {es : List Expr} {k : Nat} {g : MTGs} {n : Nat} (hc : X.calm = true) (h : GsOk X es g) (hn : (assignEach es X.env).length = n := by rfl) (hst : (assignEach es X.env).findIdx? (·.1) = none := by rfl) : GOk X (.Tuple es k pos) (gT n g) :=
  PG.mono (pg_tup hc h hn hst) fun v σ H Q ⟨f, sm, mh, m, Q', r, s, rv, ⟨xs, e, l, q⟩, kk⟩ => by
    subst e
    obtain ⟨a, vs, rfl, sq, rr⟩ := rv
    exact ⟨a, vs, rfl, sq, by rw [← rr.length]; exact l, f, sm, mh, xs, Q', r, s, rr, q, kk⟩
theorem g_lst {es : List Expr} {k : Nat} {g : MTGs} {n : Nat} (hc : X.calm = true) (h : GsOk X es g) (hn : (assignEach es X.env).length = n := by rfl) (hst : (assignEach es X.env).findIdx? (·.1) = none := by rfl) : GOk X (.Tuple es k pos) (gL n g) :=
  PG.mono (pg_lst hc h hn hst) fun v σ H Q ⟨f, sm, mh, m, Q', r, s, rv, ⟨j, xs, e, hj, l, q⟩, kk⟩ => by
    subst e
    obtain ⟨a, vs, rfl, ha, e1, rr⟩ := r.lst hj rv
    exact ⟨a, vs, rfl, .of e1, by rw [← rr.length]; exact l, f, sm, mh, xs, Q', r, s, rr, q, kk⟩
/-! stores -/
theorem s_set {i : Nat} {x : Str} {pos' : Pos} (hN : X.N.Nodup) (hi : X.N[i]? = some x) (hx : Loc X.env.scope x) (he : EOk X W e we) (hf : X.fn x = true ∨ X.env.scope.names.lookup x = some .local) (hs : swapsWith e (some (.Name x pos')) pos.line X.env = pure false := by rfl) : SOk X W (.Assign [.Name x pos'] e pos) (wAsg we (gN i)) :=
  PS.mono (ps_set hN hi hx he hs hf) fun D σ H ⟨f, sm, mh, D', a, q⟩ => a.at.go q fun f1 mh1 H1 m v p x a1 r1 q1 => a.nx _ _ ⟨f1, mh1, _, p, x, a1.h, a1.s.set r1, q1⟩
theorem s_asg {tg : Expr} {g : MTG} (he : EOk X W e we) (hg : GOk X tg g) (hs : swapsWithSole [tg] e pos.line X.env = pure false := by rfl) (hw : swappedStores [tg] e X.env = pure none := by rfl)
    (h1 : (assignEach [tg] X.env).map (·.2) = [assign tg X.env] := by rfl) : SOk X W (.Assign [tg] e pos) (wAsg we g) :=
  PS.mono (ps_asg he hg hs hw h1) fun D σ H ⟨f, sm, mh, D', a, q⟩ => a.at.go q fun f1 mh1 H1 m v p x a1 r1 q1 =>
    ⟨f1, sm, mh1, m, D'.nx, a1.h, a1.s, r1, q1, fun σ' H' z => a.nx _ _ (z.back p x)⟩
theorem s_aug {i : Nat} {x : Str} {op : Operator} {r : R2} {m : MR2} {pos' : Pos} (hN : X.N.Nodup) (hi : X.N[i]? = some x) (hx : Loc X.env.scope x) (he : EOk X W e we) (ho : OpR X (inplaceOp op) r) (l : L2R X.K r m) (hf : X.fn x = true ∨ X.env.scope.names.lookup x = some .local) :
    SOk X W (.AugAssign (.Name x pos') op e pos) (wAug i we m) :=
  PS.mono (ps_aug hN hi hx he (op := op) (ti := r) ho hf) fun D σ H ⟨f, sm, mh, D', a, ⟨m0, h0, q⟩⟩ =>
    let ⟨v0, e0, r0⟩ := a.s.at_ i m0 h0
    ⟨v0, e0, a.at.go q fun f1 mh1 H1 m1 v1 p x a1 r1 q1 => l f1 mh1 H1 m0 m1 v0 v1 _ _ a1.h (r0.mono p x) r1 q1 fun v H' ⟨f2, mh2, m2, p2, x2, r2, rv2, q2⟩ =>
      a.nx _ _ ⟨f2, mh2, _, p.trans p2, x.trans x2, r2, (a1.s.mono p2 x2).set rv2, q2⟩⟩
end
/-! a, b = x, y: both made, then stored -/
def wPar (i j : Nat) (wa : MTA) : MTS := fun D sm h => wa sm h (fun ms h1 => ∃ v w, ms = [v, w] ∧ D.nx ((sm.set i (some v)).set j (some w)) h1) (fun e h1 => D.xc e sm h1)
section
variable {X : Cx} {W : WX} {a b : Expr} {wa : MTA} {pos : Pos}
theorem s_par {i j : Nat} {x y : Str} {px py pt : Pos} {kt k2 pt2} (hc : X.calm = true) (hN : X.N.Nodup) (hi : X.N[i]? = some x) (hj : X.N[j]? = some y) (hij : i ≠ j)
    (hx : X.env.scope.names.lookup x = some .local) (hy : X.env.scope.names.lookup y = some .local) (ha : AOk X W [a, b] wa)
    (hw : swappedStores [.Tuple [.Name x px, .Name y py] kt pt] (.Tuple [a, b] k2 pt2) X.env = pure (some [x, y]))
    (hs : swapsWithSole [.Tuple [.Name x px, .Name y py] kt pt] (.Tuple [a, b] k2 pt2) pos.line X.env = pure false := by rfl) :
    SOk X W (.Assign [.Tuple [.Name x px, .Name y py] kt pt] (.Tuple [a, b] k2 pt2) pos) (wPar i j wa) :=
  PS.mono (ps_par hc hN hi hj hij hx hy ha hw hs) fun D σ H ⟨f, sm, mh, D', a, q⟩ => a.at.goA q fun f1 mh1 H1 ms vs p x a1 r1 ⟨v, w, e, q1⟩ => by
    subst e
    obtain ⟨v1, r, rfl, rv, w1, r', rfl, rw', e'⟩ := r1
    have : r' = [] := e'
    subst this
    exact ⟨v1, w1, rfl, a.nx _ _ ⟨f1, mh1, _, p, x, a1.h, (a1.s.set rv).set rw', q1⟩⟩
end

/-! ### while -/
def wIter (wc : MTT) (wb : MTS) : Nat → MTS
  | 0 => fun _ _ _ => False
  | n + 1 => fun D sm h => wc sm h (fun b h1 => if b = true then wb { D with nx := wIter wc wb n D, ct := wIter wc wb n D, bk := D.nx } sm h1 else D.nx sm h1) (fun e h1 => D.xc e sm h1)
def wWhile (wc : MTT) (wb : MTS) : MTS := fun D sm h => ∃ n, wIter wc wb n D sm h
section
variable {X : Cx} {W : WX} {k : Nat} {pos : Pos}
theorem s_while {c : Expr} {body : List Stmt} {wc : MTT} {wb : MTS} (cm : CM X W k) (hc : TOk X W c wc) (hb : SsOk X W body wb) : SOk X W (.While c body [] pos) (wWhile wc wb) :=
  PS.mono (ps_while cm.po hc hb) fun D σ H ⟨f, sm, mh, D', a, ⟨n, q⟩⟩ => by
    refine ⟨fun m σ H => ∃ f sm mh, AtS X.K W D f sm mh σ H D' ∧ wIter wc wb m D' sm mh, ⟨n, f, sm, mh, a, q⟩, ?_⟩
    rintro m σ H ⟨f, sm, mh, a, q⟩
    cases m with
    | zero => exact q.elim
    | succ m =>
      refine a.at.goT q fun f1 mh1 H1 d p x a1 q1 => ?_
      have b1 := a.step p x a1.h a1.s
      cases d with
      | false => exact b1.nx _ _ ⟨f1, mh1, sm, List.prefix_refl _, Ext.refl _, a1.h, a1.s, q1⟩
      | true =>
        rw [if_pos rfl] at q1
        rw [if_pos rfl]
        refine ⟨fun σ' H' => ∃ f sm mh, AtS X.K W D f sm mh σ' H' D' ∧ wIter wc wb m D' sm mh, fun σ' H' z => ⟨m, Nat.lt_succ_self _, z⟩, f1, sm, mh1, { D' with nx := wIter wc wb m D', ct := wIter wc wb m D', bk := D'.nx }, ⟨b1.h, b1.s, ?_, b1.rt, b1.nx, ?_, b1.xc⟩, q1⟩
        · rintro σ' H' ⟨f2, mh2, sm2, p2, x2, r2, s2, q2⟩
          exact ⟨f2, sm2, mh2, b1.step p2 x2 r2 s2, q2⟩
        · rintro σ' H' ⟨f2, mh2, sm2, p2, x2, r2, s2, q2⟩
          exact ⟨f2, sm2, mh2, b1.step p2 x2 r2 s2, q2⟩
end

/-! ### for -/
abbrev MTI := MS → MH → (List M → (MH → Prop) → MH → Prop) → KM → Prop
/-- J walks the items, while chk holds of the small heap -/
def Goes (K : PySem.W.Frag) (J : It) (f : List Addr) (H : Hp) (items : List M) (chk : MH → Prop) : Prop :=
  ∀ f1 mh1 H1, f <+: f1 → Ext H H1 → RH K f1 mh1 H1 → chk mh1 →
    (∀ i m, items[i]? = some m → J.go i H1 ∧ ∀ x H2, J.yld i H1 x H2 → RH K f1 mh1 H2 ∧ Ext H1 H2 ∧ RV K f1 H2 m x) ∧ ∀ i, items.length ≤ i → J.stop i H1
def IL (K : PySem.W.Frag) (f : List Addr) (H : Hp) (Q : List M → (MH → Prop) → MH → Prop) (J : It) (H' : Hp) : Prop :=
  ∃ f' mh' items chk, f <+: f' ∧ Ext H H' ∧ RH K f' mh' H' ∧ Goes K J f' H' items chk ∧ Q items chk mh'
def liftI (K : PySem.W.Frag) (W : WX) (w : MTI) : TI := fun σ H R => ∃ f sm mh Q' E, At K W f sm mh σ H E ∧ w sm mh Q' E ∧ ∀ J H', IL K f H Q' J H' → R J H'
abbrev IOk (X : Cx) (W : WX) (tg iter : Expr) (w : MTI) : Prop := PI X tg iter (liftI X.K W w)
theorem PI.mono {X : Cx} {tg iter : Expr} {t u : TI} (h : PI X tg iter t) (i : ∀ σ H Q, u σ H Q → t σ H Q) : PI X tg iter u := ⟨fun pins s σ H Q I q => h.run pins s σ H Q I (i σ H Q q)⟩
def wLoop (chk : MH → Prop) (g : MTG) (wb : MTS) : List M → MTS
  | [] => fun D sm h => chk h ∧ D.nx sm h
  | m :: r => fun D sm h => chk h ∧ g m sm h fun sm1 h1 => wb { D with nx := wLoop chk g wb r D, ct := wLoop chk g wb r D, bk := D.nx } sm1 h1
def wFor (wi : MTI) (g : MTG) (wb : MTS) : MTS := fun D sm h => wi sm h (fun items chk h1 => wLoop chk g wb items D sm h1) (fun e h1 => D.xc e sm h1)
section
variable {X : Cx} {W : WX} {k : Nat} {pos : Pos}
theorem s_for {tg iter : Expr} {body : List Stmt} {wi : MTI} {g : MTG} {wb : MTS} (cm : CM X W k) (hi : IOk X W tg iter wi) (hg : GOk X tg g) (hb : SsOk X W body wb) (hs : ∀ x, foldedSetIterable iter X.env x = pure x := by intro _; rfl) :
    SOk X W (.For tg iter body [] pos) (wFor wi g wb) :=
  PS.mono (ps_for cm.po cm.calm hi hg hb hs) fun D σ H ⟨f, sm, mh, D', a, q⟩ => by
    refine ⟨f, sm, mh, _, _, a.at, q, ?_⟩
    rintro J H1 ⟨f1, mh1, items, chk, p1, x1, r1, gs, q1⟩
    have b1 := a.step p1 x1 r1 (a.s.mono p1 x1)
    refine ⟨fun i m σ H => ∃ f sm mh, AtS X.K W D f sm mh σ H D' ∧ f1 <+: f ∧ Ext H1 H ∧ m = items.length - i ∧ i ≤ items.length ∧ wLoop chk g wb (items.drop i) D' sm mh, ⟨items.length, f1, sm, mh1, b1, List.prefix_refl _, Ext.refl _, rfl, Nat.zero_le _, q1⟩, ?_⟩
    rintro i m σ H ⟨f2, sm2, mh2, a2, p2, x2, e, hi, q2⟩
    by_cases hlt : i < items.length
    · have ed : items.drop i = items[i] :: items.drop (i + 1) := List.drop_eq_getElem_cons hlt
      rw [ed] at q2
      obtain ⟨hc, q2⟩ := q2
      obtain ⟨go, yl⟩ := (gs f2 mh2 H p2 x2 a2.h hc).1 i items[i] (by simp)
      refine .inr ⟨go, fun σ' H' => ∃ f sm mh, AtS X.K W D f sm mh σ' H' D' ∧ f1 <+: f ∧ Ext H1 H' ∧ wLoop chk g wb (items.drop (i + 1)) D' sm mh, ?_, ?_⟩
      · rintro σ' H' ⟨f, sm, mh, z1, z2, z3, z4⟩
        exact ⟨items.length - (i + 1), by omega, f, sm, mh, z1, z2, z3, rfl, hlt, z4⟩
      · intro x H' y
        obtain ⟨r3, x3, rv3⟩ := yl x H' y
        refine ⟨f2, sm2, mh2, items[i], _, r3, a2.s.mono (List.prefix_refl _) x3, rv3, q2, ?_⟩
        rintro σ4 H4 ⟨f4, mh4, sm4, p4, x4, r4, s4, q4⟩
        have a4 := (a2.step (List.prefix_refl _) x3 r3 (a2.s.mono (List.prefix_refl _) x3)).step p4 x4 r4 s4
        have pp : f1 <+: f4 := p2.trans p4
        have xx : Ext H1 H4 := (x2.trans x3).trans x4
        refine ⟨f4, sm4, mh4, { D' with nx := wLoop chk g wb (items.drop (i + 1)) D', ct := wLoop chk g wb (items.drop (i + 1)) D', bk := D'.nx }, ⟨a4.h, a4.s, ?_, a4.rt, a4.nx, ?_, a4.xc⟩, q4⟩
        · rintro σ5 H5 ⟨f5, mh5, sm5, p5, x5, r5, s5, q5⟩
          exact ⟨f5, sm5, mh5, a4.step p5 x5 r5 s5, pp.trans p5, xx.trans x5, q5⟩
        · rintro σ5 H5 ⟨f5, mh5, sm5, p5, x5, r5, s5, q5⟩
          exact ⟨f5, sm5, mh5, a4.step p5 x5 r5 s5, pp.trans p5, xx.trans x5, q5⟩
    · have e2 : i = items.length := by omega
      subst e2
      rw [List.drop_length] at q2
      obtain ⟨hc, q2⟩ := q2
      exact .inl ⟨(gs f2 mh2 H p2 x2 a2.h hc).2 _ (Nat.le_refl _), a2.nx _ _ ⟨f2, mh2, sm2, List.prefix_refl _, Ext.refl _, a2.h, a2.s, q2⟩⟩
/-! what is walked -/
def iSeq (w : MTE) : MTI := fun sm h Q E => w sm h (fun m h1 => match m with
  | .tup xs => Q xs (fun _ => True) h1
  | .ref n => (∃ xs, h1[n]? = some (.lst xs) ∧ Q xs (fun h => h[n]? = some (.lst xs)) h1) ∨ (∃ xs, h1[n]? = some (.rol xs) ∧ Q xs (fun h => h[n]? = some (.rol xs)) h1)
  | _ => False) E
theorem sqL_inj {K : PySem.W.Frag} {H : Hp} {a : Addr} {xs ys : List V} (h : H a = some (.lst xs)) (k : SqL K H a ys) (hk : K.lookup a = none) : ys = xs := by
  rcases k with (k | ⟨o, k⟩) | ⟨o, its, n, l, _⟩
  · rw [h] at k; cases k; rfl
  · rw [h] at k; cases k
  · rw [hk] at l; cases l
end
end Mn
end
section
set_option maxHeartbeats 2000000
namespace Mn
open PySem PySem.Spec PyProof.Rows L2

/-! ### a list or a tuple -/
section
variable {X : Cx} {W : WX} {tg : Expr} {pos p : Pos}
theorem pi_seqA {l : Expr} {tl : TE} (hl : PE X l tl) : PI X tg l (fun σ H R => tl σ H fun x H1 => (∃ a, x = .ref a ∧ (∃ xs, SqL X.K H1 a xs) ∧ R (Itl X.K a) H1) ∨ (∃ a, x = .ref a ∧ (∃ xs, SqT X.K H1 a xs) ∧ R (Itt X.K a) H1)) := by
  refine ⟨fun pins s σ H R I h => ?_⟩
  refine thn (hl.run pins s σ H _ I h) fun v s1 ⟨x, H1, I1, r1, q1⟩ => ?_
  rcases q1 with ⟨a, e, ⟨xs, hq⟩, q⟩ | ⟨a, e, ⟨xs, hq⟩, q⟩
  · subst e
    cases r1
    obtain ⟨its, rv, p, hz⟩ := I1.list hq
    refine wpAny_pyIter_list p.isList ?_
    refine ⟨s1.heap.objs.size, [s1.heap.objs.size], _, _, H1, rfl, I1.kept (t' := s1.toks) fun b o e => Heap.get?_push_of_some _ e, turn_list a _, ⟨_, Heap.get?_push_size _ rfl, rfl, rfl⟩, fun b hb => ?_, q⟩
    have e : b = s1.heap.objs.size := by simpa using hb
    subst e
    exact I1.fpOk (Nat.le_refl _) (I1.hok.fresh (Nat.le_refl _))
  · subst e
    cases r1
    obtain ⟨its, rv, p, hz⟩ := I1.tuple hq
    refine wpAny_pyIter_tuple (show s1.heap.IsTuple a its.toArray from p) ?_
    refine ⟨s1.heap.objs.size, [s1.heap.objs.size], _, _, H1, rfl, I1.kept (t' := s1.toks) fun b o e => Heap.get?_push_of_some _ e, turn_tuple a _, ⟨_, Heap.get?_push_size _ rfl, rfl, rfl⟩, fun b hb => ?_, q⟩
    have e : b = s1.heap.objs.size := by simpa using hb
    subst e
    exact I1.fpOk (Nat.le_refl _) (I1.hok.fresh (Nat.le_refl _))
end
/-- where the items of a sequence stand -/
inductive Src where
  | l (a : Addr)
  | t (a : Addr)
def Src.a : Src → Addr
  | .l a => a
  | .t a => a
def SrcIs (K : PySem.W.Frag) (H : Hp) : Src → List V → Prop
  | .l a, xs => Rd H a (.lst xs)
  | .t a, xs => SqT K H a xs
/-- the small world's items and what checks that they stand -/
def SeqM (h : MH) (m : M) (xs : List M) (chk : MH → Prop) : Prop := match m with
  | .tup ys => ys = xs ∧ chk = fun _ => True
  | .ref n => (h[n]? = some (.lst xs) ∧ chk = fun h => h[n]? = some (.lst xs)) ∨ (h[n]? = some (.rol xs) ∧ chk = fun h => h[n]? = some (.rol xs))
  | _ => False
theorem rd_inj {H : Hp} {a : Addr} {xs ys : List V} (h : Rd H a (.lst xs)) (k : Rd H a (.lst ys)) : ys = xs := by
  rcases h with h | ⟨o, h⟩ <;> rcases k with k | ⟨u, k⟩ <;> rw [h] at k <;> cases k <;> rfl
section
variable {K : PySem.W.Frag} {f : List Addr} {mh : MH} {H : Hp}
/-- from the small world: the source, its items, and that it stands as long as chk -/
theorem seq_src (r : RH K f mh H) {m : M} {v : V} (rv : RV K f H m v) {xs : List M} {chk : MH → Prop} (h : SeqM mh m xs chk) :
    chk mh ∧ ∃ src, v = .ref src.a ∧ ∀ f1 mh1 H1, f <+: f1 → Ext H H1 → RH K f1 mh1 H1 → chk mh1 → ∃ vs, SrcIs K H1 src vs ∧ RVs K f1 H1 xs vs := by
  cases m with
  | tup ys =>
    obtain ⟨rfl, rfl⟩ := h
    obtain ⟨a, vs, rfl, s, rr⟩ := rv
    exact ⟨trivial, .t a, rfl, fun f1 mh1 H1 p x r1 _ => ⟨vs, SqT.ext s x, rr.mono p x⟩⟩
  | ref n =>
    rcases h with ⟨h, rfl⟩ | ⟨h, rfl⟩
    · obtain ⟨a, e, ha⟩ := rv
      refine ⟨h, .l a, e, fun f1 mh1 H1 p x r1 hc => ?_⟩
      obtain ⟨b, hb, vs, e1, rr⟩ := r1.at hc
      rw [get_pre p ha] at hb; cases hb
      exact ⟨vs, .inl e1, rr⟩
    · obtain ⟨a, e, ha⟩ := rv
      refine ⟨h, .l a, e, fun f1 mh1 H1 p x r1 hc => ?_⟩
      obtain ⟨b, hb, o, vs, e1, rr⟩ := r1.at hc
      rw [get_pre p ha] at hb; cases hb
      exact ⟨vs, .inr ⟨o, e1⟩, rr⟩
  | _ => exact h.elim
theorem SqL.of_rd {a : Addr} {xs : List V} (h : Rd H a (.lst xs)) : SqL K H a xs := .inl h
end
/-- over an expression that is a list or a tuple -/
def wSeqI (w : MTE) : MTI := fun sm h Q E => w sm h (fun m h1 => ∃ xs chk, SeqM h1 m xs chk ∧ Q xs chk h1) E
section
variable {X : Cx} {W : WX} {tg : Expr} {pos p : Pos}
theorem sqL_rd {pins : List (Addr × Obj)} {σ : L2.St} {H : Hp} {s : Shared} (I : Inv X pins σ H s) {a : Addr} {xs ys : List V} (h : Rd H a (.lst xs)) (k : SqL X.K H a ys) : ys = xs := I.list_inj k (.inl h)
/-- what a list's iterator yields, where the list is tracked -/
theorem yl_list {K : PySem.W.Frag} {a : Addr} {H H2 : Hp} {i : Nat} {x : V} {xs : List V} (h : Rd H a (.lst xs)) (y : (Itl K a).yld i H x H2) : H2 = H ∧ xs[i]? = some x := ⟨y.1, y.2 xs (.inl h)⟩
theorem i_seq {l : Expr} {wl : MTE} (hl : EOk X W l wl) : IOk X W tg l (wSeqI wl) :=
  PI.mono (pi_seqA hl) fun σ H R ⟨f, sm, mh, Q', E, a, q, k⟩ => a.go q fun f1 mh1 H1 m v p x a1 r1 ⟨xs, chk, hs, q1⟩ => by
    obtain ⟨hc, src, e, hsrc⟩ := seq_src a1.h r1 hs
    subst e
    cases src with
    | l b =>
      obtain ⟨vs, h1, _⟩ := hsrc f1 mh1 H1 (List.prefix_refl _) (Ext.refl _) a1.h hc
      refine .inl ⟨b, rfl, ⟨vs, .inl h1⟩, k _ _ ⟨f1, mh1, xs, chk, p, x, a1.h, fun f2 mh2 H2 p2 x2 r2 hc2 => ?_, q1⟩⟩
      obtain ⟨vs2, h2, rr⟩ := hsrc f2 mh2 H2 p2 x2 r2 hc2
      refine ⟨fun i m hm => ?_, fun i hi => ⟨vs2, .inl h2, by rw [← rr.length]; exact hi⟩⟩
      obtain ⟨v, hv, rv⟩ := rr.get hm
      refine ⟨⟨vs2, v, .inl h2, hv⟩, fun y H3 hy => ?_⟩
      obtain ⟨e3, e4⟩ := yl_list h2 hy
      subst e3
      rw [hv] at e4; cases e4
      exact ⟨r2, Ext.refl _, rv⟩
    | t b =>
      obtain ⟨vs, h1, _⟩ := hsrc f1 mh1 H1 (List.prefix_refl _) (Ext.refl _) a1.h hc
      refine .inr ⟨b, rfl, ⟨vs, h1⟩, k _ _ ⟨f1, mh1, xs, chk, p, x, a1.h, fun f2 mh2 H2 p2 x2 r2 hc2 => ?_, q1⟩⟩
      obtain ⟨vs2, h2, rr⟩ := hsrc f2 mh2 H2 p2 x2 r2 hc2
      refine ⟨fun i m hm => ?_, fun i hi => ⟨vs2, h2, by rw [← rr.length]; exact hi⟩⟩
      obtain ⟨v, hv, rv⟩ := rr.get hm
      refine ⟨⟨vs2, v, h2, hv⟩, fun y H3 hy => ?_⟩
      obtain ⟨rfl, hy⟩ := hy
      have := hy vs2 h2
      rw [hv] at this; cases this
      exact ⟨r2, Ext.refl _, rv⟩
/-! range -/
def rngM (lo : Int) (n : Nat) : List M := (List.range n).map fun (i : Nat) => M.int (lo + i)
theorem goes_rng {K : PySem.W.Frag} {f : List Addr} {H : Hp} (lo : Int) (n : Nat) : Goes K (Itr lo n) f H (rngM lo n) (fun _ => True) := by
  intro f1 mh1 H1 p x r _
  refine ⟨fun i m hm => ?_, fun i hi => (show n ≤ i by simpa [rngM] using hi)⟩
  unfold rngM at hm
  rw [List.getElem?_map] at hm
  cases q : (List.range n)[i]? with
  | none => rw [q] at hm; cases hm
  | some j =>
    rw [q] at hm
    have hi : i < n := by have := (List.getElem?_eq_some_iff.mp q).1; simpa using this
    have hj : j = i := by rw [List.getElem?_range hi] at q; cases q; rfl
    subst hj
    have e : m = .int (lo + j) := by simpa using hm.symm
    subst e
    refine ⟨hi, ?_⟩
    rintro y H2 ⟨rfl, rfl⟩
    exact ⟨r, Ext.refl _, rfl⟩
def RgOk (i : Int) : Prop := -(2 ^ 62) ≤ i ∧ i < 2 ^ 62
def rngQ1 (Q : List M → (MH → Prop) → MH → Prop) (ms : List M) (h : MH) : Prop := match ms with
  | [.int j] => RgOk j ∧ Q (rngM 0 j.toNat) (fun _ => True) h
  | _ => False
def rngQ2 (Q : List M → (MH → Prop) → MH → Prop) (ms : List M) (h : MH) : Prop := match ms with
  | [.int i, .int j] => RgOk i ∧ RgOk j ∧ Q (rngM i (j - i).toNat) (fun _ => True) h
  | _ => False
theorem rngQ1_inv {Q : List M → (MH → Prop) → MH → Prop} {ms : List M} {h : MH} (q : rngQ1 Q ms h) : ∃ j, ms = [.int j] ∧ RgOk j ∧ Q (rngM 0 j.toNat) (fun _ => True) h := by
  unfold rngQ1 at q; split at q
  · exact ⟨_, rfl, q⟩
  · exact q.elim
theorem rngQ2_inv {Q : List M → (MH → Prop) → MH → Prop} {ms : List M} {h : MH} (q : rngQ2 Q ms h) : ∃ i j, ms = [.int i, .int j] ∧ RgOk i ∧ RgOk j ∧ Q (rngM i (j - i).toNat) (fun _ => True) h := by
  unfold rngQ2 at q; split at q
  · exact ⟨_, _, rfl, q⟩
  · exact q.elim
def wRng1 (wa : MTA) : MTI := fun sm h Q E => wa sm h (rngQ1 Q) E
def wRng2 (wa : MTA) : MTI := fun sm h Q E => wa sm h (rngQ2 Q) E
theorem i_rng1 {a : Expr} {wa : MTA} (hg : Gl X "range") (hm : X.mg "range" = none) (ha : AOk X W [a] wa) (hs : starEach [a] X.env = [(false, eval a X.env)] := by rfl) : IOk X W tg (.Call (.Name "range" p) [a] [] pos) (wRng1 wa) :=
  PI.mono (pi_range1 hg hm ha hs) fun σ H R ⟨f, sm, mh, Q', E, a, q, k⟩ => a.goA q fun f1 mh1 H1 ms vs p x a1 r1 q1 => by
    obtain ⟨j, rfl, hj, q2⟩ := rngQ1_inv q1
    obtain ⟨v, r, rfl, rv, rn⟩ := r1
    have e1 : v = .int j := rv
    have e2 : r = [] := rn
    subst e1 e2
    exact ⟨j, rfl, hj.1, hj.2, k _ _ ⟨f1, mh1, _, _, p, x, a1.h, goes_rng 0 _, q2⟩⟩
theorem i_rng2 {a b : Expr} {wa : MTA} (hg : Gl X "range") (hm : X.mg "range" = none) (ha : AOk X W [a, b] wa) (hs : starEach [a, b] X.env = [(false, eval a X.env), (false, eval b X.env)] := by rfl) (hs2 : starEach [b] X.env = [(false, eval b X.env)] := by rfl) : IOk X W tg (.Call (.Name "range" p) [a, b] [] pos) (wRng2 wa) :=
  PI.mono (pi_range2 hg hm ha hs hs2) fun σ H R ⟨f, sm, mh, Q', E, a, q, k⟩ => a.goA q fun f1 mh1 H1 ms vs p x a1 r1 q1 => by
    obtain ⟨i, j, rfl, hi, hj, q2⟩ := rngQ2_inv q1
    obtain ⟨v, r, rfl, rv, v2, r2, rfl, rv2, rn⟩ := r1
    have e1 : v = .int i := rv
    have e2 : v2 = .int j := rv2
    have e3 : r2 = [] := rn
    subst e1 e2 e3
    exact ⟨i, j, rfl, ⟨hi.1, hi.2, hj.1, hj.2⟩, k _ _ ⟨f1, mh1, _, _, p, x, a1.h, goes_rng i _, q2⟩⟩
end
end Mn
end
section
set_option maxHeartbeats 2000000
namespace Mn
open PySem PySem.Spec PyProof.Rows L2

/-! ### targets that are names -/
inductive Tg where
  | one (i : Nat)
  | tup (is : List Nat)
def Tg.is : Tg → List Nat
  | .one i => [i]
  | .tup is => is
def setM {α : Type} (sm : List (Option α)) : List Nat → List α → List (Option α)
  | i :: is, m :: ms => setM (sm.set i (some m)) is ms
  | _, _ => sm
def gsN : List Nat → TGs
  | [] => gNil
  | i :: r => gCons (gName i) (gsN r)
theorem gsN_go : ∀ {is : List Nat} {vs : List V} {σ : L2.St} {H : Hp} {Q : L2.St → Hp → Prop}, vs.length = is.length → Q (setM σ is vs) H → gsN is vs σ H Q
  | [], [], _, _, _, _, q => ⟨rfl, q⟩
  | [], _ :: _, _, _, _, l, _ => by simp at l
  | _ :: _, [], _, _, _, l, _ => by simp at l
  | i :: is, v :: vs, σ, H, Q, l, q => ⟨v, vs, rfl, gsN_go (is := is) (vs := vs) (by simpa using l) q⟩
def tgV (K : PySem.W.Frag) : Tg → TG
  | .one i => gName i
  | .tup is => gTup K is.length (gsN is)
def tgM : Tg → MTG
  | .one i => gN i
  | .tup is => fun m sm h Q => ∃ xs, m = .tup xs ∧ xs.length = is.length ∧ Q (setM sm is xs) h
def wipeM (sm : MS) : List Nat → MS
  | [] => sm
  | v :: vs => (wipeM sm vs).set v none
section
variable {K : PySem.W.Frag} {f : List Addr} {H : Hp}
theorem wipe_rel {sm : MS} {σ : L2.St} (r : RS K f H sm σ) : ∀ vs : List Nat, RS K f H (wipeM sm vs) (wipe σ vs)
  | [] => r
  | v :: vs => (wipe_rel r vs).unset
theorem setM_rel : ∀ {is : List Nat} {ms : List M} {vs : List V} {sm : MS} {σ : L2.St}, RS K f H sm σ → RVs K f H ms vs → RS K f H (setM sm is ms) (setM σ is vs)
  | [], _, _, _, _, r, _ => by unfold setM; exact r
  | _ :: _, [], vs, _, _, r, h => by cases h; exact r
  | i :: is, m :: ms, _, _, _, r, ⟨v, vs, e, h, t⟩ => by subst e; exact setM_rel (is := is) (r.set h) t
end
theorem wipe_set {σ : L2.St} {i : Nat} {x : Option V} : ∀ {vs : List Nat}, i ∈ vs → wipe (σ.set i x) vs = wipe σ vs
  | [], h => by simp at h
  | v :: vs, h => by
    unfold wipe
    by_cases e : i ∈ vs
    · rw [wipe_set e]
    · have e2 : v = i := by simpa [e, eq_comm] using h
      subst e2
      have : ∀ (ws : List Nat), v ∉ ws → (wipe (σ.set v x) ws).set v none = (wipe σ ws).set v none := by
        intro ws
        induction ws with
        | nil => intro _; unfold wipe; simp
        | cons u us ih =>
          intro hu
          simp at hu
          unfold wipe
          rw [List.set_comm _ _ (Ne.symm hu.1), ih hu.2, List.set_comm _ _ hu.1]
      exact this vs e
theorem wipe_setM : ∀ {is : List Nat} {xs : List V} {σ : L2.St} {vs : List Nat}, (∀ i ∈ is, i ∈ vs) → wipe (setM σ is xs) vs = wipe σ vs
  | [], _, _, _, _ => by unfold setM; rfl
  | _ :: _, [], _, _, _ => rfl
  | i :: is, x :: xs, σ, vs, h => by
    show wipe (setM (σ.set i (some x)) is xs) vs = _
    rw [wipe_setM (fun j hj => h j (by simp [hj])), wipe_set (h i (by simp))]
theorem wipe_idem {σ : L2.St} : ∀ {vs us : List Nat}, (∀ i ∈ us, i ∈ vs) → wipe (wipe σ us) vs = wipe σ vs
  | vs, [], _ => rfl
  | vs, u :: us, h => by
    show wipe ((wipe σ us).set u none) vs = _
    rw [wipe_set (h u (by simp)), wipe_idem fun j hj => h j (by simp [hj])]

/-! ### a comprehension -/
abbrev W0 : WX := fun _ _ _ _ => False
def FK : KM := fun _ _ => False
/-- over the items: D the list that grows, acc what it holds -/
def cLoop (chk : MH → Prop) (g : MTG) (wt : MTT) (we : MTE) (sm : MS) (D : Nat) (Q : List M → MH → Prop) : List M → List M → MH → Prop
  | [], acc, h => chk h ∧ h[D]? = some (.lst acc) ∧ Q acc h
  | m :: r, acc, h => chk h ∧ g m sm h fun sm2 h2 => wt sm2 h2 (fun b h3 =>
      if b = true then we sm2 h3 (fun y h4 => h4[D]? = some (.lst acc) ∧ acc.length < SZ ∧ cLoop chk g wt we sm D Q r (acc ++ [y]) (h4.set D (.lst (acc ++ [y])))) FK
      else cLoop chk g wt we sm D Q r acc h3) FK
def wComp (wi : MTI) (tg : Tg) (wt : MTT) (we : MTE) (vs : List Nat) : MTE := fun sm h Q E => wi sm h (fun items chk h1 => cLoop chk (tgM tg) wt we (wipeM sm vs) h1.length (fun _ h2 => Q (.ref h1.length) h2) items [] (h1 ++ [.lst []])) E
def wYes : MTT := fun _ h Q _ => Q true h
section
variable {X : Cx} {W : WX}
abbrev TsOk (X : Cx) (ifs : List Expr) (w : MTT) : Prop := PTs X ifs (liftT X.K W0 w)
theorem ts_nil : TsOk X [] wYes := ⟨fun pins s σ H Q I ⟨f, sm, mh, Q', E, a, q, k⟩ => pts_nil.run pins s σ H Q I (k _ _ ⟨f, mh, List.prefix_refl _, Ext.refl _, a.h, q⟩)⟩
theorem ts_one {c : Expr} {w : MTT} (h : TOk X W0 c w) : TsOk X [c] w := pts_one h
/-- in the block of a comprehension -/
theorem cm_blk {k : Nat} (c : CM X W k) (s : Shared) (H : Hp) (scope : Scope) (cenv : Env) (fp : List Addr) : CM (X.blk s H scope cenv fp) W0 k where
  calm := c.calm
  tk := LamX.takes0
  po := .never
  rm := c.rm
  sm := c.sm
  nd := c.nd
theorem comp_rd {K : PySem.W.Frag} {tg : Tg} {wt : MTT} {we : MTE} {vs : List Nat} (hv : ∀ i ∈ tg.is, i ∈ vs) {wi : MTI} {σ : L2.St} {H : Hp} {Q : VK} (h : liftE K W (wComp wi tg wt we vs) σ H Q) :
    tLc (liftI K W wi) (tgV K tg) (liftT K W0 wt) (liftE K W0 we) vs σ H Q := by
  obtain ⟨f, sm, mh, Q', E, a, q, k⟩ := h
  refine ⟨f, sm, mh, _, E, a, q, ?_⟩
  rintro J H1 ⟨f1, mh1, items, chk, p1, x1, r1, gs, q1⟩ D hD
  have x2 : Ext H1 (upd H1 D (.lst [])) := Ext.new hD
  have p2 : f1 <+: f1 ++ [D] := List.prefix_append _ _
  have r2 : RH K (f1 ++ [D]) (mh1 ++ [.lst []]) (upd H1 D (.lst [])) := r1.alloc (o := .lst []) hD ⟨[], upd_same, rfl⟩
  have hDi : (f1 ++ [D])[mh1.length]? = some D := by rw [← r1.len, List.getElem?_append_right (Nat.le_refl _)]; simp
  have s1 : RS K f1 H1 sm σ := a.s.mono p1 x1
  refine ⟨fun i m H => ∃ f mh acc, RH K f mh H ∧ f1 ++ [D] <+: f ∧ Ext H1 H ∧ m = items.length - i ∧ i ≤ items.length ∧ cLoop chk (tgM tg) wt we (wipeM sm vs) mh1.length (fun _ h2 => Q' (.ref mh1.length) h2) (items.drop i) acc mh,
    ⟨items.length, f1 ++ [D], mh1 ++ [.lst []], [], r2, List.prefix_refl _, x2, rfl, Nat.zero_le _, by rw [List.drop_zero]; exact q1⟩, ?_⟩
  rintro i m H2 ⟨f2, mh2, acc, r2, p2', x2', e, hi, q2⟩
  have pf : f1 <+: f2 := p2.trans p2'
  by_cases hlt : i < items.length
  · rw [List.drop_eq_getElem_cons hlt] at q2
    obtain ⟨hc, q2⟩ := q2
    obtain ⟨go, yl⟩ := (gs f2 mh2 H2 pf x2' r2 hc).1 i items[i] (by simp)
    refine .inr ⟨go, fun H' => ∃ f mh acc, RH K f mh H' ∧ f1 ++ [D] <+: f ∧ Ext H1 H' ∧ cLoop chk (tgM tg) wt we (wipeM sm vs) mh1.length (fun _ h2 => Q' (.ref mh1.length) h2) (items.drop (i + 1)) acc mh, ?_, ?_⟩
    · rintro H' ⟨f, mh, acc, z1, z2, z3, z4⟩
      exact ⟨items.length - (i + 1), by omega, f, mh, acc, z1, z2, z3, rfl, hlt, z4⟩
    · intro x H3 y
      obtain ⟨r3, x3, rv3⟩ := yl x H3 y
      have s3 : RS K f2 H3 (wipeM sm vs) (wipe σ vs) := wipe_rel ((s1.mono pf x2').mono (List.prefix_refl _) x3) vs
      have rest : ∀ (sm2 : MS) (σ2 : L2.St), wipe σ2 vs = wipe σ vs → RS K f2 H3 sm2 σ2 →
          wt sm2 mh2 (fun b h3 => if b = true then we sm2 h3 (fun y h4 => h4[mh1.length]? = some (.lst acc) ∧ acc.length < SZ ∧ cLoop chk (tgM tg) wt we (wipeM sm vs) mh1.length (fun _ h2 => Q' (.ref mh1.length) h2) (items.drop (i + 1)) (acc ++ [y]) (h4.set mh1.length (.lst (acc ++ [y])))) FK
            else cLoop chk (tgM tg) wt we (wipeM sm vs) mh1.length (fun _ h2 => Q' (.ref mh1.length) h2) (items.drop (i + 1)) acc h3) FK →
          wipe σ2 vs = wipe σ vs ∧ liftT K W0 wt σ2 H3 fun b H4 => if b = true then liftE K W0 we σ2 H4 fun y H5 => ∃ acc, H5 D = some (.lst acc) ∧ acc.length < sizeLine ∧
            (∃ f mh acc', RH K f mh (upd H5 D (.lst (acc ++ [y]))) ∧ f1 ++ [D] <+: f ∧ Ext H1 (upd H5 D (.lst (acc ++ [y]))) ∧ cLoop chk (tgM tg) wt we (wipeM sm vs) mh1.length (fun _ h2 => Q' (.ref mh1.length) h2) (items.drop (i + 1)) acc' mh)
            else ∃ f mh acc, RH K f mh H4 ∧ f1 ++ [D] <+: f ∧ Ext H1 H4 ∧ cLoop chk (tgM tg) wt we (wipeM sm vs) mh1.length (fun _ h2 => Q' (.ref mh1.length) h2) (items.drop (i + 1)) acc mh := by
        intro sm2 σ2 ew s2 q3
        refine ⟨ew, ?_⟩
        have a3 : At K W0 f2 sm2 mh2 σ2 H3 FK := ⟨r3, s2, fun cls d H' ⟨f', mh', C, ks, ms, us, dx, _, _, _, _, _, _, _, _, z⟩ => z⟩
        refine a3.goT q3 fun f4 mh4 H4 b p4 x4 a4 q4 => ?_
        cases b with
        | false => exact ⟨f4, mh4, acc, a4.h, p2'.trans p4, (x2'.trans x3).trans x4, q4⟩
        | true =>
          rw [if_pos rfl] at q4
          rw [if_pos rfl]
          refine a4.go q4 fun f5 mh5 H5 my v p5 x5 a5 rv5 ⟨hd, hsz, q5⟩ => ?_
          have hD5 : f5[mh1.length]? = some D := get_pre (p2'.trans (p4.trans p5)) hDi
          obtain ⟨b', hb, vs', e5, rr⟩ := a5.h.at hd
          rw [hD5] at hb; cases hb
          have xx : Ext H5 (upd H5 D (.lst (vs' ++ [v]))) := Ext.put e5 (fun z => z)
          refine ⟨vs', e5, by rw [SZ_eq, ← rr.length]; exact hsz, f5, _, _, a5.h.put (o := .lst (acc ++ [my])) hD5 e5 (fun z => z) ⟨vs' ++ [v], upd_same, ?_⟩, p2'.trans (p4.trans p5), (((x2'.trans x3).trans x4).trans x5).trans xx, q5⟩
          exact (rr.mono (List.prefix_refl _) xx).append ⟨v, [], rfl, rv5.mono (List.prefix_refl _) xx, rfl⟩
      cases tg with
      | one j =>
        refine rest _ _ ?_ (s3.set rv3) q2
        rw [wipe_set (hv j (by simp [Tg.is])), wipe_idem (fun _ h => h)]
      | tup is =>
        obtain ⟨xs, e6, l6, q6⟩ := q2
        rw [e6] at rv3
        obtain ⟨ax, vsx, rfl, sqx, rrx⟩ := rv3
        refine ⟨ax, vsx, rfl, sqx, by rw [← rrx.length]; exact l6, gsN_go (by rw [← rrx.length]; exact l6) ?_⟩
        refine rest _ _ ?_ (setM_rel s3 rrx) q6
        rw [wipe_setM (is := is) (fun j hj => hv j hj), wipe_idem (fun _ h => h)]
  · have e2 : i = items.length := by omega
    subst e2
    rw [List.drop_length] at q2
    obtain ⟨hc, hd, q2⟩ := q2
    refine .inl ⟨(gs f2 mh2 H2 pf x2' r2 hc).2 _ (Nat.le_refl _), k _ _ ⟨f2, mh2, .ref mh1.length, p1.trans pf, x1.trans x2', r2, ⟨D, rfl, get_pre p2' hDi⟩, q2⟩⟩
variable {elt tgE iter : Expr} {ifs : List Expr} {scope : Scope} {own : List (Str × Nat)} {pos : Pos} {wi : MTI} {tg : Tg} {wt : MTT} {we : MTE}
theorem m_comp (hc : X.calm = true) (hN : X.N.Nodup) (hi : IOk X W tgE iter wi) (ok : BlkOk X.N X.env.scope scope own) (hv : ∀ i ∈ tg.is, i ∈ own.map (·.2))
    (hg : ∀ (s : Shared) (H : Hp) (C : Addr) (cl : List (Str × Addr)) (fp : List Addr), PG (X.blk s H scope (compEnvC scope cl C X.env) fp) tgE (tgV X.K tg))
    (ht : ∀ (s : Shared) (H : Hp) (C : Addr) (cl : List (Str × Addr)) (fp : List Addr), TsOk (X.blk s H scope (compEnvC scope cl C X.env) fp) ifs wt)
    (he : ∀ (s : Shared) (H : Hp) (C : Addr) (cl : List (Str × Addr)) (fp : List Addr), EOk (X.blk s H scope (compEnvC scope cl C X.env) fp) W0 elt we) (hs : ∀ x, foldedSetIterable iter X.env x = pure x := by intro _; rfl) :
    EOk X W (.ListComp elt [⟨tgE, iter, ifs, 0⟩] scope pos) (wComp wi tg wt we (own.map (·.2))) :=
  PE.mono (pe_lc hc hN hi ok hg ht he hs) fun σ H Q h => comp_rd hv h
theorem s_setC {i : Nat} {y : Str} {py spos : Pos} (hc : X.calm = true) (hN : X.N.Nodup) (hy : X.N[i]? = some y) (hyl : X.env.scope.names.lookup y = some .local)
    (hsw : swapsWith (.ListComp elt [⟨tgE, iter, ifs, 0⟩] scope pos) (some (.Name y py)) spos.line X.env = pure true) (hi : IOk X W tgE iter wi) (ok : BlkOk X.N X.env.scope scope own) (hv : ∀ i ∈ tg.is, i ∈ own.map (·.2))
    (hg : ∀ (s : Shared) (H : Hp) (C : Addr) (cl : List (Str × Addr)) (fp : List Addr), PG (X.blk s H scope (compEnvC scope cl C X.env) fp) tgE (tgV X.K tg))
    (ht : ∀ (s : Shared) (H : Hp) (C : Addr) (cl : List (Str × Addr)) (fp : List Addr), TsOk (X.blk s H scope (compEnvC scope cl C X.env) fp) ifs wt)
    (he : ∀ (s : Shared) (H : Hp) (C : Addr) (cl : List (Str × Addr)) (fp : List Addr), EOk (X.blk s H scope (compEnvC scope cl C X.env) fp) W0 elt we) (hs : ∀ x, foldedSetIterable iter X.env x = pure x := by intro _; rfl) :
    SOk X W (.Assign [.Name y py] (.ListComp elt [⟨tgE, iter, ifs, 0⟩] scope pos) spos) (wAsg (wComp wi tg wt we (own.map (·.2))) (gN i)) :=
  PS.mono (ps_setLc hc hN hy hyl hsw hi ok hg ht he hs) fun D σ H ⟨f, sm, mh, D', a, q⟩ => by
    refine comp_rd hv (W := W) ⟨f, sm, mh, _, _, a.at, q, ?_⟩
    rintro v H1 ⟨f1, mh1, m, p, x, r1, rv, q1⟩
    exact a.nx _ _ ⟨f1, mh1, _, p, x, r1, (a.s.mono p x).set rv, q1⟩
end
end Mn
end
section
set_option maxHeartbeats 2000000
namespace Mn
open PySem PySem.Spec PyProof.Rows L2

/-! ### values as data -/
def pdL (g : M → Option PyData) : List M → Option (List PyData)
  | [] => some []
  | x :: xs => match g x, pdL g xs with
    | some d, some ds => some (d :: ds)
    | _, _ => none
def pd (h : MH) : Nat → M → Option PyData
  | _, .non => some .none
  | _, .bl b => some (.bool b)
  | _, .int i => some (.int i)
  | _, .str s => some (.str s)
  | n + 1, .tup xs => (pdL (pd h n) xs).map .tuple
  | n + 1, .ref k => match h[k]? with
    | some (.lst xs) => (pdL (pd h n) xs).map .list
    | some (.dct []) => some (.dict [])
    | _ => none
  | _, _ => none
section
variable {K : PySem.W.Frag} {f : List Addr} {mh : MH} {H : Hp}
theorem pdL_cons {g : M → Option PyData} {x : M} {xs : List M} {ds : List PyData} (h : pdL g (x :: xs) = some ds) : ∃ d r, ds = d :: r ∧ g x = some d ∧ pdL g xs = some r := by
  unfold pdL at h
  split at h
  · rename_i d r e1 e2
    cases h
    exact ⟨d, r, rfl, e1, e2⟩
  · cases h
theorem pd_dp (r : RH K f mh H) : ∀ (n : Nat) (m : M) (d : PyData) (v : V), pd mh n m = some d → d.canLay0 = true → RV K f H m v → Dp K H v d := by
  intro n
  have dpAll : ∀ (n : Nat), (∀ (m : M) (d : PyData) (v : V), pd mh n m = some d → d.canLay0 = true → RV K f H m v → Dp K H v d) → ∀ (xs : List M) (ds : List PyData) (vs : List V), pdL (pd mh n) xs = some ds → PyData.canLayAll0 ds = true → RVs K f H xs vs → DpAll K H vs ds := by
    intro n ih xs
    induction xs with
    | nil => intro ds vs h _ rv; cases h; cases rv; exact .nil
    | cons x xs ihx =>
      intro ds vs h hl rv
      obtain ⟨d, rd, rfl, h1, h2⟩ := pdL_cons h
      obtain ⟨v, rr, rfl, r1, r2⟩ := rv
      have hl' : (d.canLay0 && PyData.canLayAll0 rd) = true := hl
      rw [Bool.and_eq_true] at hl'
      exact .cons (ih x d v h1 hl'.1 r1) (ihx rd rr h2 hl'.2 r2)
  induction n with
  | zero =>
    intro m d v h hl rv
    cases m with
    | non => cases h; have e : v = .non := rv; subst e; exact .non
    | bl b => cases h; have e : v = .bl b := rv; subst e; exact .bl b
    | int i => cases h; have e : v = .int i := rv; subst e; exact .int i
    | str s => cases h; have e : v = .str s := rv; subst e; exact .str s
    | _ => cases h
  | succ n ih =>
    intro m d v h hl rv
    cases m with
    | non => cases h; have e : v = .non := rv; subst e; exact .non
    | bl b => cases h; have e : v = .bl b := rv; subst e; exact .bl b
    | int i => cases h; have e : v = .int i := rv; subst e; exact .int i
    | str s => cases h; have e : v = .str s := rv; subst e; exact .str s
    | tup xs =>
      have h : (pdL (pd mh n) xs).map PyData.tuple = some d := h
      obtain ⟨ds, h1, rfl⟩ := Option.map_eq_some_iff.mp h
      obtain ⟨a, vs, rfl, s, rr⟩ := rv
      exact .tup s (dpAll n ih xs ds vs h1 hl rr)
    | ref k =>
      have h : (match mh[k]? with | some (.lst xs) => (pdL (pd mh n) xs).map PyData.list | some (.dct []) => some (.dict []) | _ => none) = some d := h
      split at h
      · rename_i xs e
        obtain ⟨ds, h1, rfl⟩ := Option.map_eq_some_iff.mp h
        obtain ⟨a, vs, rfl, ha, e1, rr⟩ := r.lst e rv
        exact .lst (.of e1) (dpAll n ih xs ds vs h1 hl rr)
      · cases h; cases hl
      · cases h
    | _ => cases h
end
/-- == of data -/
def mEqG (neg : Bool) : MR2 := fun x y h Q => ∃ d e, pd h 60 x = some d ∧ pd h 60 y = some e ∧ SeqAt.shaped d = true ∧ SeqAt.shaped e = true ∧ Q (.bl (if neg then !PyData.eqv d e else PyData.eqv d e)) h
def mEq : MR2 := fun x y h Q => match x, y with
  | .int i, .int j => Q (.bl (i == j)) h
  | .bl a, .bl b => Q (.bl (a == b)) h
  | .str a, .str b => Q (.bl (a == b)) h
  | x, y => mEqG false x y h Q
def mNe : MR2 := fun x y h Q => match x, y with
  | .int i, .int j => Q (.bl (!(i == j))) h
  | .bl a, .bl b => Q (.bl (!(a == b))) h
  | .str a, .str b => Q (.bl (!(a == b))) h
  | x, y => mEqG true x y h Q
section
variable {X : Cx}
def rEqA (K : PySem.W.Frag) : R2 := fun x y H Q => rEq x y H Q ∨ rEqD K x y H Q
def rNeA (K : PySem.W.Frag) : R2 := fun x y H Q => rNe x y H Q ∨ rNeD K x y H Q
theorem op_eqA (hu : X.A.units + 64 < cLine) : OpR X (compareOp .Eq) (rEqA X.K) := OpR.or op_eq (op_eqD hu)
theorem op_neA (hu : X.A.units + 64 < cLine) : OpR X (compareOp .NotEq) (rNeA X.K) := OpR.or op_ne (op_neD hu)
theorem lay_of {d : PyData} (h : SeqAt.shaped d = true) : d.canLay0 = true := SeqAt.canLay_of_shaped h
theorem l_eq : L2R X.K (rEqA X.K) mEq := by
  intro f mh H x y xv yv Q' Q r rx ry q k
  have gen : mEqG false x y mh Q' → rEqA X.K xv yv H Q := fun ⟨d, e, h1, h2, s1, s2, q⟩ =>
    .inr ⟨d, e, pd_dp r 60 x d xv h1 (lay_of s1) rx, pd_dp r 60 y e yv h2 (lay_of s2) ry, s1, s2, k _ _ (QL.same r (m := .bl (PyData.eqv d e)) rfl q)⟩
  unfold mEq at q
  split at q
  · rename_i i j
    have e1 : xv = .int i := rx
    have e2 : yv = .int j := ry
    subst e1 e2
    exact .inl ⟨rfl, k _ _ (QL.same r (m := .bl (i == j)) (congrArg V.bl dec_int) q)⟩
  · rename_i i j
    have e1 : xv = .bl i := rx
    have e2 : yv = .bl j := ry
    subst e1 e2
    exact .inl ⟨rfl, k _ _ (QL.same r (m := .bl (i == j)) (congrArg V.bl dec_bl) q)⟩
  · rename_i i j
    have e1 : xv = .str i := rx
    have e2 : yv = .str j := ry
    subst e1 e2
    exact .inl ⟨rfl, k _ _ (QL.same r (m := .bl (i == j)) (congrArg V.bl dec_str) q)⟩
  · exact gen q
theorem l_ne : L2R X.K (rNeA X.K) mNe := by
  intro f mh H x y xv yv Q' Q r rx ry q k
  have gen : mEqG true x y mh Q' → rNeA X.K xv yv H Q := fun ⟨d, e, h1, h2, s1, s2, q⟩ =>
    .inr ⟨d, e, pd_dp r 60 x d xv h1 (lay_of s1) rx, pd_dp r 60 y e yv h2 (lay_of s2) ry, s1, s2, k _ _ (QL.same r (m := .bl (!PyData.eqv d e)) rfl q)⟩
  unfold mNe at q
  split at q
  · rename_i i j
    have e1 : xv = .int i := rx
    have e2 : yv = .int j := ry
    subst e1 e2
    exact .inl ⟨rfl, k _ _ (QL.same r (m := .bl (!(i == j))) (congrArg (fun b => V.bl (!b)) dec_int) q)⟩
  · rename_i i j
    have e1 : xv = .bl i := rx
    have e2 : yv = .bl j := ry
    subst e1 e2
    exact .inl ⟨rfl, k _ _ (QL.same r (m := .bl (!(i == j))) (congrArg (fun b => V.bl (!b)) dec_bl) q)⟩
  · rename_i i j
    have e1 : xv = .str i := rx
    have e2 : yv = .str j := ry
    subst e1 e2
    exact .inl ⟨rfl, k _ _ (QL.same r (m := .bl (!(i == j))) (congrArg (fun b => V.bl (!b)) dec_str) q)⟩
  · exact gen q
/-! is None -/
def isNon : M → Bool
  | .non => true
  | _ => false
def mIs : MR2 := fun x y h Q => match y with
  | .non => Q (.bl (isNon x)) h
  | _ => False
def mIsNot : MR2 := fun x y h Q => match y with
  | .non => Q (.bl (!isNon x)) h
  | _ => False
theorem isNon_ok {K : PySem.W.Frag} {f : List Addr} {H : Hp} {x : M} {v : V} (r : RV K f H x v) : decide (v = .non) = isNon x := by
  cases x with
  | non => have e : v = .non := r; subst e; rfl
  | bl b => have e : v = .bl b := r; subst e; rfl
  | int i => have e : v = .int i := r; subst e; rfl
  | str s => have e : v = .str s := r; subst e; rfl
  | tup xs => obtain ⟨a, vs, rfl, _⟩ := r; rfl
  | ref n => obtain ⟨a, rfl, _⟩ := r; rfl
  | glo x => have e : v = .ref _ := r; subst e; rfl
  | exc C ks vs => obtain ⟨a, d, us, rfl, _⟩ := r; rfl
  | ty n => have e : v = .ty n := r; subst e; rfl
  | lam a c q σ bs ms => obtain ⟨rfl, _⟩ := r; rfl
theorem l_is : L2R X.K (fun x y H Q => y = .non ∧ Q (.bl (decide (x = .non))) H) mIs := by
  intro f mh H x y xv yv Q' Q r rx ry q k
  unfold mIs at q
  split at q
  · have e : yv = .non := ry
    subst e
    exact ⟨rfl, k _ _ (QL.same r (m := .bl (isNon x)) (congrArg V.bl (isNon_ok rx)) q)⟩
  · exact q.elim
theorem l_isNot : L2R X.K (fun x y H Q => y = .non ∧ Q (.bl (!decide (x = .non))) H) mIsNot := by
  intro f mh H x y xv yv Q' Q r rx ry q k
  unfold mIsNot at q
  split at q
  · have e : yv = .non := ry
    subst e
    exact ⟨rfl, k _ _ (QL.same r (m := .bl (!isNon x)) (congrArg (fun b => V.bl (!b)) (isNon_ok rx)) q)⟩
  · exact q.elim
end

/-! ### subscripts -/
def itemsM (h : MH) : M → Option (List M)
  | .tup xs => some xs
  | .ref n => match h[n]? with
    | some (.lst xs) => some xs
    | some (.rol xs) => some xs
    | _ => none
  | _ => none
def mIx : MR2 := fun x y h Q => ∃ xs i v, itemsM h x = some xs ∧ y = .int i ∧ atI xs i = some v ∧ Q v h
section
variable {K : PySem.W.Frag} {f : List Addr} {mh : MH} {H : Hp}
theorem items_rd (r : RH K f mh H) {m : M} {v : V} {xs : List M} (rv : RV K f H m v) (h : itemsM mh m = some xs) : ∃ a vs, v = .ref a ∧ (Rd H a (.lst vs) ∨ SqT K H a vs) ∧ RVs K f H xs vs := by
  cases m with
  | tup ys =>
    have e : ys = xs := Option.some.inj h
    subst e
    obtain ⟨a, vs, rfl, s, rr⟩ := rv
    exact ⟨a, vs, rfl, .inr s, rr⟩
  | ref n =>
    have h : (match mh[n]? with | some (.lst xs) => some xs | some (.rol xs) => some xs | _ => none) = some xs := h
    obtain ⟨a, rfl, ha⟩ := rv
    split at h
    · rename_i ys e
      cases h
      obtain ⟨b, hb, vs, e1, rr⟩ := r.at e
      rw [ha] at hb; cases hb
      exact ⟨a, vs, rfl, .inl (.inl e1), rr⟩
    · rename_i ys e
      cases h
      obtain ⟨b, hb, o, vs, e1, rr⟩ := r.at e
      rw [ha] at hb; cases hb
      exact ⟨a, vs, rfl, .inl (.inr ⟨o, e1⟩), rr⟩
    · cases h
  | _ => cases h
theorem ref_rd (r : RH K f mh H) {n : Nat} {v : V} {xs : List M} (rv : RV K f H (.ref n) v) (h : itemsM mh (.ref n) = some xs) : ∃ a vs, v = .ref a ∧ Rd H a (.lst vs) ∧ RVs K f H xs vs := by
  have h : (match mh[n]? with | some (.lst xs) => some xs | some (.rol xs) => some xs | _ => none) = some xs := h
  obtain ⟨a, rfl, ha⟩ := rv
  split at h
  · rename_i ys e
    cases h
    obtain ⟨b, hb, vs, e1, rr⟩ := r.at e
    rw [ha] at hb; cases hb
    exact ⟨a, vs, rfl, .inl e1, rr⟩
  · rename_i ys e
    cases h
    obtain ⟨b, hb, o, vs, e1, rr⟩ := r.at e
    rw [ha] at hb; cases hb
    exact ⟨a, vs, rfl, .inr ⟨o, e1⟩, rr⟩
  · cases h
theorem atI_rel {xs : List M} {vs : List V} {i : Int} {m : M} (r : RVs K f H xs vs) (h : atI xs i = some m) : ∃ v, atI vs i = some v ∧ RV K f H m v := by
  unfold atI at h ⊢
  rw [← r.length]
  cases q : ixN xs.length i with
  | none => rw [q] at h; cases h
  | some j =>
    rw [q] at h
    exact r.get h
end
theorem l_ix {X : Cx} : L2R X.K (rIx X.K) mIx := by
  intro f mh H x y xv yv Q' Q r rx ry ⟨xs, i, m, h1, h2, h3, q⟩ k
  subst h2
  have e2 : yv = .int i := ry
  subst e2
  obtain ⟨a, vs, rfl, s, rr⟩ := items_rd r rx h1
  obtain ⟨v, h4, rv⟩ := atI_rel rr h3
  rcases s with s | s
  · exact .inl ⟨a, vs, i, v, rfl, rfl, .inl s, h4, k _ _ (QL.same r rv q)⟩
  · exact .inr (.inl ⟨a, vs, i, v, rfl, rfl, s, h4, k _ _ (QL.same r rv q)⟩)
section
variable {X : Cx} {W : WX} {a b : Expr} {wa wb : MTE} {pos : Pos}
theorem m_ix {r : R2} {m : MR2} (hr : IxR X r) (l : L2R X.K r m) (ha : EOk X W a wa) (hb : EOk X W b wb) (hs : PlainIx b) : EOk X W (.Subscript a b pos) (wOp m wa wb) :=
  PE.mono (pe_ix hr ha hb hs) fun σ H Q ⟨f, sm, mh, Q', E, a, q, k⟩ =>
    a.go q fun f1 mh1 H1 m1 v1 p1 x1 a1 r1 q1 => a1.go q1 fun f2 mh2 H2 m2 v2 p2 x2 a2 r2 q2 =>
      l f2 mh2 H2 m1 m2 v1 v2 Q' Q a2.h (r1.mono p2 x2) r2 q2 fun v H' z => k v H' ((z.back p2 x2).back p1 x1)
end
/-! o[i] = v -/
def gSubM (wo wi : MTE) : MS → MH → M → (MS → MH → Prop) → KM → Prop := fun sm h v Q E => wo sm h (fun o h1 => wi sm h1 (fun i h2 => ∃ n xs k j, o = .ref n ∧ i = .int k ∧ h2[n]? = some (.lst xs) ∧ ixN xs.length k = some j ∧ Q sm (h2.set n (.lst (xs.set j v)))) E) E
def wAsgSub (we wo wi : MTE) : MTS := fun D sm h => we sm h (fun v h1 => gSubM wo wi sm h1 v D.nx (fun e h => D.xc e sm h)) (fun e h => D.xc e sm h)
section
variable {X : Cx} {W : WX} {o i e : Expr} {wo wi we : MTE} {pos tpos : Pos}
theorem set_rd {K : PySem.W.Frag} {f : List Addr} {mh : MH} {H : Hp} {n : Nat} {xs : List M} {k : Int} {j : Nat} {m : M} {ov v : V} {Q : Hp → Prop} (r : RH K f mh H) (ro : RV K f H (.ref n) ov) (rv : RV K f H m v) (h : mh[n]? = some (.lst xs)) (hj : ixN xs.length k = some j)
    (q : ∀ H', Ext H H' → RH K f (mh.set n (.lst (xs.set j m))) H' → Q H') : rSetL ov (.int k) v H Q := by
  obtain ⟨a, vs, rfl, ha, e1, rr⟩ := r.lst h ro
  have x : Ext H (upd H a (.lst (vs.set j v))) := Ext.put e1 fun z => z
  exact ⟨a, vs, k, j, rfl, rfl, e1, by rw [← rr.length]; exact hj, q _ x (r.put (o := .lst (xs.set j m)) ha e1 (fun z => z) ⟨_, upd_same, (rr.mono (List.prefix_refl _) x).set j (rv.mono (List.prefix_refl _) x)⟩)⟩
theorem s_setSub (he : EOk X W e we) (ho : EOk X W o wo) (hi : EOk X W i wi) (hs : swapsWithSole [.Subscript o i tpos] e pos.line X.env = pure false := by rfl) (hw : swappedStores [.Subscript o i tpos] e X.env = pure none := by rfl)
    (h1 : (assignEach [.Subscript o i tpos] X.env).map (·.2) = [assign (.Subscript o i tpos) X.env] := by rfl)
    (ha : ∀ v, assign (.Subscript o i tpos) X.env v = (do
      let ov ← holding [v] (eval o X.env)
      let iv ← holding [v, ov] (eval i X.env)
      standAt tpos
      holding [v, ov, iv] (setItem ov iv v)
      release [v, ov, iv] []) := by intro _; rfl) : SOk X W (.Assign [.Subscript o i tpos] e pos) (wAsgSub we wo wi) :=
  PS.mono (ps_asg he (pg_sub ho hi set_list ha) hs hw h1) fun D σ H ⟨f, sm, mh, D', a, q⟩ => a.at.go q fun f1 mh1 H1 m v p1 x1 a1 r1 q1 =>
    a1.go q1 fun f2 mh2 H2 mo vo p2 x2 a2 r2 q2 => a2.go q2 fun f3 mh3 H3 mi vi p3 x3 a3 r3 ⟨n, xs, k, j, e1, e2, h3, hj, q3⟩ => by
      subst e1 e2
      have e4 : vi = .int k := r3
      subst e4
      exact set_rd a3.h (r2.mono p3 x3) ((r1.mono p2 x2).mono p3 x3) h3 hj fun H' x4 r4 => a.nx _ _ ⟨f3, _, sm, (p1.trans p2).trans p3, ((x1.trans x2).trans x3).trans x4, r4, a3.s.mono (List.prefix_refl _) x4, q3⟩
/-! o[i] op= e -/
def wAugSub (wo wi we : MTE) (m : MR2) : MTS := fun D sm h => wo sm h (fun o h1 => wi sm h1 (fun i h2 => ∃ n xs k j x, o = .ref n ∧ i = .int k ∧ h2[n]? = some (.lst xs) ∧ ixN xs.length k = some j ∧ xs[j]? = some x ∧
  we sm h2 (fun y h3 => m x y h3 fun z h4 => ∃ ys, h4[n]? = some (.lst ys) ∧ ys.length = xs.length ∧ D.nx sm (h4.set n (.lst (ys.set j z)))) (fun e h => D.xc e sm h)) (fun e h => D.xc e sm h)) (fun e h => D.xc e sm h)
theorem get_list {X : Cx} : PGet X (fun x y H Q => ∃ p xs i v, x = .ref p ∧ y = .int i ∧ H p = some (.lst xs) ∧ atI xs i = some v ∧ Q v H) := by
  intro pins s σ H ox oi ov iv Q I ro ri ⟨p, xs, k, v, e1, e2, hp, hv, q⟩
  subst e1 e2
  cases ro
  obtain ⟨t, rfl⟩ := ri
  obtain ⟨its, rv, pl, hz⟩ := I.list (SqL.of hp)
  obtain ⟨j, hj, hjv, hlt, h1, h2⟩ := atI_get hv
  obtain ⟨u, hu, ru⟩ := rv.get hjv
  have hl := rv.length
  have lz := line63
  by_cases h0 : 0 ≤ k
  · have hj' : k.toNat = j := by
      rw [seqIndex_of h0 h2] at hj
      exact Option.some.inj hj
    exact wpAny_getItem_list pl.isList h0 (by omega) (by rw [hj']; simpa using hu) ⟨v, H, I, ru, q⟩
  · have hj' : (k + (its.toArray.size : Int)).toNat = j := by
      rw [seqIndex_neg (by omega) h1] at hj
      rw [List.size_toArray, ← hl]
      exact Option.some.inj hj
    exact wpAny_getItem_list_neg pl.isList (by omega) (by rw [List.size_toArray] <;> omega) (by omega) (by rw [hj']; simpa using hu) ⟨v, H, I, ru, q⟩
theorem atI_ix {α : Type} {xs : List α} {k : Int} {j : Nat} {x : α} (h : ixN xs.length k = some j) (hx : xs[j]? = some x) : atI xs k = some x := by unfold atI; rw [h]; exact hx
theorem s_augSub {op : Operator} {r : R2} {m : MR2} (ho : EOk X W o wo) (hi : EOk X W i wi) (he : EOk X W e we) (hp : OpR X (inplaceOp op) r) (l : L2R X.K r m)
    (ha : ∀ ov iv new, augStore i ov iv new = (do holding [new, ov, iv] (setItem ov iv new); release [new, ov, iv] []; pure .next) := by intros; rfl) :
    SOk X W (.AugAssign (.Subscript o i tpos) op e pos) (fun D sm h => wo sm h (fun o h1 => wi sm h1 (fun i h2 => ∃ n xs k j x, o = .ref n ∧ i = .int k ∧ h2[n]? = some (.lst xs) ∧ ixN xs.length k = some j ∧ xs[j]? = some x ∧
      we sm h2 (fun y h3 => m x y h3 fun z h4 => ∃ ys, h4[n]? = some (.lst ys) ∧ ixN ys.length k = some j ∧ D.nx sm (h4.set n (.lst (ys.set j z)))) (fun e h => D.xc e sm h)) (fun e h => D.xc e sm h)) (fun e h => D.xc e sm h)) :=
  PS.mono (ps_augS ho hi get_list he (op := op) (tip := r) hp set_list ha) fun D σ H ⟨f, sm, mh, D', a, q⟩ => a.at.go q fun f1 mh1 H1 mo vo p1 x1 a1 r1 q1 =>
    a1.go q1 fun f2 mh2 H2 mi vi p2 x2 a2 r2 ⟨n, xs, kk, j, x, e1, e2, h3, hj, hx, q2⟩ => by
      subst e1 e2
      have e4 : vi = .int kk := r2
      subst e4
      obtain ⟨ad, vs, rfl, had, e5, rr⟩ := a2.h.lst h3 (r1.mono p2 x2)
      obtain ⟨v, hv, rv⟩ := rr.get hx
      refine ⟨ad, vs, kk, v, rfl, rfl, e5, atI_ix (by rw [← rr.length]; exact hj) hv, ?_⟩
      refine a2.go q2 fun f3 mh3 H3 my vy p3 x3 a3 r3 q3 => ?_
      refine l f3 mh3 H3 x my v vy _ _ a3.h (rv.mono p3 x3) r3 q3 ?_
      rintro z H4 ⟨f4, mh4, mz, p4, x4, r4, rv4, ys, h5, hj4, q4⟩
      refine set_rd r4 (((r1.mono p2 x2).mono p3 x3).mono p4 x4) rv4 h5 hj4 fun H' x5 r5 => ?_
      exact a.nx _ _ ⟨f4, _, sm, ((p1.trans p2).trans p3).trans p4, (((x1.trans x2).trans x3).trans x4).trans x5, r5, (a3.s.mono p4 x4).mono (List.prefix_refl _) x5, q4⟩
end

/-! ### slices a[lo:hi] -/
abbrev MTO := MS → MH → (Option Int → MH → Prop) → KM → Prop
def oNo : MTO := fun _ h Q _ => Q none h
def oSome (w : MTE) : MTO := fun sm h Q E => w sm h (fun m h1 => ∃ i, m = .int i ∧ Q (some i) h1) E
def liftO (K : PySem.W.Frag) (W : WX) (w : MTO) : TO := fun σ H Q => ∃ f sm mh Q' E, At K W f sm mh σ H E ∧ w sm mh Q' E ∧ ∀ o H', (∃ f' mh', f <+: f' ∧ Ext H H' ∧ RH K f' mh' H' ∧ Q' o mh') → Q o H'
abbrev OOk (X : Cx) (W : WX) (e : Option Expr) (w : MTO) : Prop := PO X e (liftO X.K W w)
def cutM (xs : List M) (lo hi : Option Int) : List M := (xs.drop (HT.sIx xs.length 0 lo)).take (HT.sIx xs.length xs.length hi - HT.sIx xs.length 0 lo)
def mSl (x : M) (lo hi : Option Int) (h : MH) (Q : KM) : Prop := match x with
  | .tup xs => Q (.tup (cutM xs lo hi)) h
  | .ref n => ∃ xs, itemsM h (.ref n) = some xs ∧ Q (.ref h.length) (h ++ [.lst (cutM xs lo hi)])
  | _ => False
def wSl (w : MTE) (lo hi : MTO) : MTE := fun sm h Q E => w sm h (fun x h1 => lo sm h1 (fun l h2 => hi sm h2 (fun u h3 => mSl x l u h3 Q) E) E) E
section
variable {X : Cx} {W : WX} {e : Expr} {we : MTE} {pos p2 : Pos} {lo hi : Option Expr} {wl wh : MTO}
theorem PO.mono {e : Option Expr} {t u : TO} (h : PO X e t) (i : ∀ σ H Q, u σ H Q → t σ H Q) : PO X e u := ⟨fun pins s σ H Q I q => h.run pins s σ H Q I (i σ H Q q)⟩
theorem o_none : OOk X W none oNo := PO.mono po_none fun σ H Q ⟨f, sm, mh, Q', E, a, q, k⟩ => k _ _ ⟨f, mh, List.prefix_refl _, Ext.refl _, a.h, q⟩
theorem o_some (h : EOk X W e we) : OOk X W (some e) (oSome we) := PO.mono (po_some h) fun σ H Q ⟨f, sm, mh, Q', E, a, q, k⟩ =>
  a.go q fun f1 mh1 H1 m v p x a1 r1 ⟨i, e, q1⟩ => by
    subst e
    exact ⟨i, r1, k _ _ ⟨f1, mh1, p, x, a1.h, q1⟩⟩
theorem At.goO {K : PySem.W.Frag} {f : List Addr} {sm : MS} {mh : MH} {σ : L2.St} {H : Hp} {E : KM} (a : At K W f sm mh σ H E) {w : MTO} {Q' : Option Int → MH → Prop} {Q : Option Int → Hp → Prop} (h : w sm mh Q' E)
    (k : ∀ f1 mh1 H1 o, f <+: f1 → Ext H H1 → At K W f1 sm mh1 σ H1 E → Q' o mh1 → Q o H1) : liftO K W w σ H Q :=
  ⟨f, sm, mh, Q', E, a, h, fun o H1 ⟨f1, mh1, p, x, r, q⟩ => k f1 mh1 H1 o p x (a.step p x r) q⟩
theorem cut_rel {K : PySem.W.Frag} {f : List Addr} {H : Hp} {xs : List M} {vs : List V} (r : RVs K f H xs vs) (lo hi : Option Int) : RVs K f H (cutM xs lo hi) (cutV vs lo hi) := by
  unfold cutM cutV
  rw [r.length]
  exact (r.drop _).take _
def rSlAll (K : PySem.W.Frag) : V → Option Int → Option Int → Hp → VK → Prop := fun x lo hi H Q => rSlL K x lo hi H Q ∨ rSlA K x lo hi H Q
theorem sl_all : SlR X (rSlAll X.K) := SlR.or sl_list sl_tupA
theorem whole_cut {xs : List M} {lo hi : Option Int} (h : HT.sIx xs.length 0 lo = 0 ∧ HT.sIx xs.length xs.length hi = xs.length) : cutM xs lo hi = xs := by
  unfold cutM
  rw [h.1, h.2]
  simp
theorem m_slice (he : EOk X W e we) (hl : OOk X W lo wl) (hu : OOk X W hi wh) : EOk X W (.Subscript e (.Slice lo hi none p2) pos) (wSl we wl wh) :=
  PE.mono (pe_slice sl_all he hl hu) fun σ H Q ⟨f, sm, mh, Q', E, a, q, k⟩ =>
    a.go q fun f1 mh1 H1 m v p1 x1 a1 r1 q1 => a1.goO q1 fun f2 mh2 H2 l p2 x2 a2 q2 => a2.goO q2 fun f3 mh3 H3 u p3 x3 a3 q3 => by
      have r3 := (r1.mono p2 x2).mono p3 x3
      have back : ∀ v H', QL X.K f3 H3 Q' v H' → Q v H' := fun v H' z => k v H' (((z.back p3 x3).back p2 x2).back p1 x1)
      unfold mSl at q3
      split at q3
      · rename_i xs
        obtain ⟨b, vs, rfl, s, rr⟩ := r3
        refine .inr ⟨b, vs, rfl, s, fun hw => ?_, fun hw pa hp => back _ _ (QL.tup a3.h (cut_rel rr l u) hp q3)⟩
        rw [whole_cut (by rw [rr.length]; exact hw)] at q3
        exact back _ _ (QL.same a3.h (m := .tup xs) ⟨b, vs, rfl, s, rr⟩ q3)
      · rename_i n
        obtain ⟨xs, h1, q4⟩ := q3
        obtain ⟨b, vs, rfl, s, rr⟩ := ref_rd a3.h r3 h1
        exact .inl ⟨b, vs, rfl, .inl s, fun pa hp => back _ _ (QL.lst a3.h (cut_rel rr l u) hp q4)⟩
      · exact q3.elim
end
end Mn
end
section
set_option maxHeartbeats 2000000
namespace Mn
open PySem PySem.Spec PyProof.Rows L2

/-! ### a caught exception, tracked from then on -/
section
variable {X : Cx} {pins : List (Addr × Obj)} {σ : L2.St} {H : Hp} {sI s' : Shared} {a : Addr} {cls : Value} {d : Option Addr}
theorem exO_ne_own {x : Addr} : ExO a cls d ≠ .own x := fun z => by unfold ExO at z; cases z
theorem exO_ne_tup {xs : List V} : ExO a cls d ≠ .tup xs := fun z => by unfold ExO at z; cases z
theorem inv_track {oe : Obj} {vs : Array Value} (I : Inv X pins σ H sI) (hna : sI.heap.get? a = none) (J : Inv X pins σ H s') (he : s'.heap.get? a = some oe) (hz : Zc cls d oe) (hd : oe.data = .fields vs) (na : H a = none) (hex : X.ex = []) :
    Inv X pins σ (upd H a (ExO a cls d)) s' := by
  have h0 : X.s_0.heap.get? a = none := by
    cases q : X.s_0.heap.get? a with
    | none => rfl
    | some o =>
      obtain ⟨o', z⟩ := I.base.there a o q (by rw [hex]; simp)
      rw [hna] at z; cases z
  have ne0 : ∀ {b : Addr} {o : Obj}, X.s_0.heap.get? b = some o → b ≠ a := fun {b o} e z => by rw [z, h0] at e; cases e
  have neI : ∀ {b : Addr} {o : Obj}, sI.heap.get? b = some o → b ≠ a := fun {b o} e z => by rw [z, hna] at e; cases e
  have neH : ∀ {b : Addr} {o : HO}, H b = some o → b ≠ a := fun {b o} e z => by rw [z, na] at e; cases e
  refine ⟨J.ok, J.os, J.bare, ⟨J.base.keep, J.base.slot, fun b o e n hx => ?_, J.base.there, fun b xs e => ?_, fun b o u e => ?_, fun b ps e => ?_⟩, J.loc, J.cell, ?_, fun x c e => ?_, fun p hp => ?_, fun b o e => ?_, J.len⟩
  · rw [upd_ne (ne0 e)]; exact J.base.free b o e n hx
  · have z := J.base.tups b xs e
    rw [upd_ne (neH z)]; exact z
  · have z := J.base.frzs b o u e
    rw [upd_ne (neH z)]; exact z
  · obtain ⟨more, z⟩ := J.base.tbls b ps e
    exact ⟨more, by rw [upd_ne (neH z)]; exact z⟩
  · obtain ⟨m, ⟨o, es, ep, ho, _⟩, _⟩ := I.loc
    rw [upd_ne (neI ho)]; exact J.free
  · obtain ⟨v, o, ho, _⟩ := I.cell x c e
    rw [upd_ne (neI ho)]; exact J.freeC x c e
  · obtain ⟨e1, _⟩ := I.pin p hp
    obtain ⟨z1, z2, z3⟩ := J.pin p hp
    exact ⟨z1, by rw [upd_ne (neI e1)]; exact z2, z3⟩
  · by_cases hb : b = a
    · subst hb
      rw [upd_same] at e; cases e
      exact ⟨⟨oe, vs, he, hz.1, hz.2, hd⟩, ⟨oe, he⟩, fun h1 h2 ⟨oe', vs', w1, w2⟩ st => ⟨oe', vs', st _ w1, w2⟩⟩
    · rw [upd_ne hb] at e
      refine (J.hok b o e).stay (fun c u hc q => q) (fun c hc => ?_) fun c xs hc => ?_
      · rw [upd_ne (neH hc)]; exact hc
      · rw [upd_ne (neH hc)]; exact hc
theorem inv_suite0 (I : Inv X pins σ H s') (a : Addr) : Inv (X.suite a (X.pn ++ pins)) [] σ H s' :=
  ⟨I.ok.suite _ _, I.os, I.bare, I.base, I.loc, I.cell, I.free, I.freeC, fun p hp => I.pin p (by rw [List.append_nil] at hp; exact hp), I.hok, I.len⟩
theorem inv_unsuite0 {pn' : List (Addr × Obj)} (I : Inv (X.suite a (X.pn ++ pins)) pn' σ H s') (ok : X.Ok) : Inv X pins σ H s' :=
  ⟨ok, I.os, I.bare, I.base, I.loc, I.cell, I.free, I.freeC, fun p hp => I.pin p (List.mem_append_left _ hp), I.hok, I.len⟩
end
theorem flying_keeps {B h h' : Heap} {l : List Env} {a : Addr} {Z : Obj → Prop} (f : HandSPX.FlyingZ B l a Z h) (k : ∀ b o, h.get? b = some o → h'.get? b = some o) : HandSPX.FlyingZ B l a Z h' := by
  obtain ⟨f1, f2, f3, oe, vs, T, oT, ts, e1, e2, e3, e4, e5, e6, e7, e8⟩ := f
  exact ⟨fun b o e => k b o (f1 b o e), f2, f3.of_keeps fun b o e _ => ⟨o, k b o e, rfl⟩, oe, vs, T, oT, ts, k _ _ e1, e2, e3, e4, e5, e6, k _ _ e7, e8⟩

/-- the test of an except clause: it gives c, which answers b of an exception of the class cls -/
def ExTest (X : Cx) (t : Expr) (ans : Value → Bool → Prop) : Prop :=
  ∀ (a : Addr) (pn pins : List (Addr × Obj)) (σ : L2.St) (H : Hp) (s : Shared) (cls : Value) (b : Bool) (Q : Value → Shared → Prop) (E : Value → Shared → Prop), Inv (X.suite a pn) pins σ H s → ans cls b →
    PySem.W.Looks (model X.prog X.w) s.heap (typeOf (.ref a)) cls →
    (∀ (c : Value) (h' : Heap) (t' : Nat), (∀ b o, s.heap.get? b = some o → h'.get? b = some o) → PySem.W.Looks (model X.prog X.w) h' (excMatches (.ref a) c) b → Q c { s with heap := h', toks := t' }) →
    wpAny (model X.prog X.w) (X.A.mark (some (.ref a))) (eval t X.env) Q E s
section
variable {X : Cx}
theorem names_ld {x : Str} {c : Value} (hc : Names X x c) {a : Addr} {pn pins : List (Addr × Obj)} {σ : L2.St} {H : Hp} {s : Shared} {np : Pos} {Q : Value → Shared → Prop} {E : Value → Shared → Prop} (S : Inv (X.suite a pn) pins σ H s) (q : Q c s) :
    wpAny (model X.prog X.w) (X.A.mark (some (.ref a))) (eval (.Name x np) X.env) Q E s := by
  obtain ⟨hg, hdbg, hm | ⟨hm, hv, hnn⟩⟩ := hc
  · exact ld_glob (X := X.suite a pn) S hg hm q hdbg
  · exact ld_blt (X := X.suite a pn) S hg hm hv q hnn hdbg
theorem test_one {x : Str} {c : Value} {np : Pos} (hc : Names X x c) : ExTest X (.Name x np) fun cls b => PySem.W.exmOne X.K cls c = some b := by
  intro a pn pins σ H s cls b Q E S hb LT h
  exact names_ld hc S (h c s.heap s.toks (fun _ _ z => z) (PySem.W.exm_one S.kIn LT hb))
theorem test_two {x y : Str} {c e : Value} {np mp tp : Pos} {kk : Nat} (hc : Names X x c) (he : Names X y e) : ExTest X (.Tuple [.Name x np, .Name y mp] kk tp) fun cls b => PySem.W.exmAny X.K cls [c, e] = some b := by
  intro a pn pins σ H s cls b Q E S hb LT h
  refine wpAny_Tuple_spliced ?_
  show wpAny _ _ (spliced [(false, eval (.Name x np) X.env), (false, eval (.Name y mp) X.env)]) _ _ s
  refine Calls.spliced_cons (names_ld hc S (Calls.spliced_cons (names_ld he S (Calls.spliced_nil ⟨?_, ?_⟩))))
  · rw [sizeLine_eq]; show 2 ≤ 16777216; decide
  · refine h _ _ s.toks (fun b o z => Heap.get?_push_of_some _ z) ?_
    exact PySem.W.exm_tup2 (S.kIn.keeps fun b o z => Heap.get?_push_of_some _ z) (LT.keeps fun b o z => Heap.get?_push_of_some _ z) (Heap.get?_push_size _ rfl) hb
/-- what the clause of a try wishes: the exception is tracked -/
def wAsT (ans : Value → Bool → Prop) (i : Nat) (ts : Addr → Value → Option Addr → TS) (Wout : WX) (D : Ends) : WX := fun cls d σ H =>
  ∃ b, ans cls b ∧ (b = true → ∀ a, H a = none → ts a cls d { nx := fun σ' H' => D.nx (σ'.set i none) H', rt := D.rt, bk := fun σ' H' => D.bk (σ'.set i none) H', ct := fun σ' H' => D.ct (σ'.set i none) H' } (σ.set i (some (.ref a))) (upd H a (ExO a cls d))) ∧
    (b = false → Wout cls d σ H)
theorem ps_tryT {n : Str} {i : Nat} {body suite : List Stmt} {b₀ : Stmt} {t : Expr} {pos pos' : Pos} {tb : WX → TS} {ts : Addr → Value → Option Addr → TS} {Wout : WX} {ans : Value → Bool → Prop} (hs : X.stack = X.env :: X.outer) (hf : X.env.frame = some X.env.locals) (hex : X.ex = []) (hN : X.N.Nodup) (hi : X.N[i]? = some n) (hln : X.env.kindOf n = some .local) (ht : ExTest X t ans)
    (tk : Takes X Wout) (hb : ∀ (W : WX) (pn : List (Addr × Obj)) (xe : Value → Shared → Prop), Takes (X.tr pn xe) W → PassesOwn (model X.prog X.w) X.A X.env xe → PSs (X.tr pn xe) body (tb W))
    (hsu : ∀ (a : Addr) (cls : Value) (d : Option Addr) (pn : List (Addr × Obj)), PSs (X.suite a pn) (b₀ :: suite) (ts a cls d)) :
    PS X (.Try body [.ExceptHandler (some t) (some n) (b₀ :: suite) pos'] [] [] pos) (fun D σ H => tb (wAsT ans i ts Wout D) D σ H) := by
  refine ⟨fun pins s σ H D I h => ?_⟩
  have ok := I.ok
  have hfr : X.A.frames = some (X.env :: X.outer) := by rw [ok.frames, hs]
  have hloc : Loc X.env.scope n := .inl hln
  have run := (hb (wAsT ans i ts Wout D) (X.pn ++ pins) (fun e s₁ => wpAny (model X.prog X.w) X.A (noteFrame e X.env) (fun _ s₂ => wpAny (model X.prog X.w) X.A (setFlight e none) (fun _ s₃ =>
    wpAny (model X.prog X.w) X.A (handleBy e X.env [.ExceptHandler (some t) (some n) (b₀ :: suite) pos']) (SP X pins D) X.xe s₃) X.xe s₂) X.xe s₁) (fun u s' xx => ?_) PassesOwn.looking).run [] s σ H D (I.toTry _) h
  · refine wpAny_Try_except (wpAny_mono run (fun f s1 hsp => ?_) fun e s1 he => he)
    cases f with
    | next => obtain ⟨σ', H', J, q⟩ := hsp; exact wpAny_execs_nil ⟨σ', H', J.ofTry ok, q⟩
    | brk => obtain ⟨σ', H', J, q⟩ := hsp; exact ⟨σ', H', J.ofTry ok, q⟩
    | cont => obtain ⟨σ', H', J, q⟩ := hsp; exact ⟨σ', H', J.ofTry ok, q⟩
    | ret u => obtain ⟨v, σ', H', J, r, q⟩ := hsp; exact ⟨v, σ', H', J.ofTry ok, r, q⟩
  · obtain ⟨a, B, sI, pins', σ', H', cls, d, rfl, J', nb, up, sky, na, os, ag, b, hb1, hyes, hno⟩ := xx
    have J : Inv X pins σ' H' sI := J'.ofTry ok
    rw [show (X.tr (X.pn ++ pins) _).stack = X.env :: X.outer from hs] at sky
    show wpAny (model X.prog X.w) X.A (noteFrame (.ref a) X.env) _ _ _
    refine Sky.land Zc.steady hfr hf sky fun h3 fl3 up3 => ?_
    have J3 : Inv X pins σ' H' { s' with heap := h3 } := J.landed nb fl3.1 (up.trans up3) os ag
    obtain ⟨oe3, vs3, he3, hz3, hd3⟩ := fl3.there
    have nfr : a ∉ frs (X.env :: X.outer) := fun hm => by
      obtain ⟨_, o', e', hnf⟩ := fl3.2.2.1.mem hm
      rw [he3] at e'; cases e'
      exact hnf _ hd3
    have aI : sI.heap.get? a = none := by
      cases q : sI.heap.get? a with
      | none => rfl
      | some o =>
        have z := nb a o q (by rw [show frs (X.tr (X.pn ++ pins) _).stack = frs X.stack from rfl, hs]; exact nfr)
        rw [fl3.2.1] at z; cases z
    have nL : a ≠ X.env.locals := fun z => nfr (List.mem_filterMap.mpr ⟨X.env, List.mem_cons_self, by rw [hf, z]⟩)
    have nF : a ∉ X.fs := fun hm => by
      obtain ⟨e, he, q⟩ := List.mem_filterMap.mp hm
      exact nfr (List.mem_filterMap.mpr ⟨e, List.mem_cons_of_mem _ he, q⟩)
    have S3 := J3.suite he3 hd3 na nL nF
    have LT : PySem.W.Looks (model X.prog X.w) h3 (typeOf (.ref a)) cls := fun A Q E s k q => wpAny_typeOf_ref (k _ _ he3) (by rw [hz3.1]; exact q)
    refine PySem.W.exc_clause_as (ht a _ [] σ' H' { s' with heap := h3 } cls b _ _ S3 hb1 LT fun c h4 t4 k4 LM => ⟨b, LM, ?_⟩)
    have fl4 : HandSPX.FlyingZ B (X.env :: X.outer) a (Zc cls d) h4 := flying_keeps fl3 k4
    have up4 : sI.heap.UpToSlots h4 := (up.trans up3).trans (Heap.UpToSlots.of_keeps k4)
    cases b with
    | false =>
      show wpAny _ X.A (handleBy (.ref a) X.env []) _ _ _
      refine wpAny_handleBy_nil ?_
      obtain ⟨k1, k2, k3, oe, vs, T, oT, ts', he, hz, hd, h1, hr⟩ := id fl4
      unfold PySem.passOn
      refine wpAny_bind (wpAny_field he hd h1 ?_)
      rw [if_neg (show ¬ ((Value.ref T == Value.none) = true) from by simp)]
      have fin : wpAny (model X.prog X.w) X.A (setFlight (.ref a) X.env.frame) (fun _ s4 => wpAny (model X.prog X.w) X.A (throw (.ref a) : Sem Flow) (SP X pins D) X.xe s4) X.xe { s' with heap := h4, toks := t4 } := by
        rw [hf]
        refine HandSPX.setFlight_upZ fl4 fun h5 hh5 up5 => wpAny_throw (tk _ _ ?_)
        exact ⟨a, B, sI, pins, σ', H', cls, d, rfl, J, nb, up4.trans up5, .inr (.inr (by rw [hs]; exact hh5)), na, os, ag, hno rfl⟩
      first
        | exact wpAny_bind (wpAny_pure (wpAny_bind fin))
        | exact wpAny_bind fin
    | true =>
      refine HandSPX.lands_againZ fl4 fun h5 fl5 up5 => ?_
      have J5 : Inv X pins σ' H' { s' with heap := h5, toks := t4 } := J.landed nb fl5.1 (up4.trans up5) os ag
      obtain ⟨oe5, vs5, he5, hz5, hd5⟩ := fl5.there
      have T5 := inv_track J aI J5 he5 hz5 hd5 na hex
      refine store_ok (X := X.suite a (X.pn ++ pins)) (v := .ref a) (inv_suite0 T5 a) hN hi hloc rfl (fun s6 S6 => ?_) (.inr hln)
      refine wpAny_mono ((hsu a cls d (X.pn ++ pins)).run [] s6 _ _ _ S6 (hyes rfl a na)) (fun f s7 hsp => ?_) (fun _ _ z => False.elim z)
      have end_ : ∀ {σ6 : L2.St} {H6 : Hp} {Q : Shared → Prop}, Inv (X.suite a (X.pn ++ pins)) [] σ6 H6 s7 → (∀ s8, Inv X pins (σ6.set i none) H6 s8 → Q s8) →
          wpAny (model X.prog X.w) X.A (do bindName X.env n .none; unbindBehindTheSuite X.env n pos') (fun _ s8 => Q s8) X.xe s7 := fun {σ6 H6 Q} S6 hq => gone_ok (inv_unsuite0 S6 ok) hN hi hln hq
      cases f with
      | next => obtain ⟨σ6, H6, S6, q6⟩ := hsp; exact end_ S6 fun s8 J8 => ⟨_, _, J8, q6⟩
      | brk => obtain ⟨σ6, H6, S6, q6⟩ := hsp; exact end_ S6 fun s8 J8 => ⟨_, _, J8, q6⟩
      | cont => obtain ⟨σ6, H6, S6, q6⟩ := hsp; exact end_ S6 fun s8 J8 => ⟨_, _, J8, q6⟩
      | ret u => obtain ⟨v6, σ6, H6, S6, r6, q6⟩ := hsp; exact end_ S6 fun s8 J8 => ⟨_, _, _, J8, r6, q6⟩
end

/-! ### try: .. except (A, B) as n: .. -/
def sufD (D : MD) (i : Nat) : MD := { nx := fun sm' h' => D.nx (sm'.set i none) h', rt := D.rt, bk := fun sm' h' => D.bk (sm'.set i none) h', ct := fun sm' h' => D.ct (sm'.set i none) h', xc := fun _ _ _ => False }
def xcT (cs : List Str) (catches : Str → Bool) (i : Nat) (ws : MTS) (D : MD) : M → MS → MH → Prop := fun e sm1 h1 => ∃ C ks vs, e = .exc C ks vs ∧ C ∈ cs ∧ if catches C = true then ws (sufD D i) (sm1.set i (some e)) h1 else D.xc e sm1 h1
def wTryT (cs : List Str) (catches : Str → Bool) (i : Nat) (wb ws : MTS) : MTS := fun D sm h => wb { D with xc := xcT cs catches i ws D } sm h
section
variable {X : Cx} {W : WX} {k : Nat}
theorem cm_tr (c : CM X W k) {W' : WX} {pn : List (Addr × Obj)} {xe : Value → Shared → Prop} (tk : Takes (X.tr pn xe) W') (po : PassesOwn (model X.prog X.w) X.A X.env xe) : CM (X.tr pn xe) W' k := ⟨c.calm, tk, po, c.rm, c.sm, c.nd⟩
theorem s_tryT {cs : List Str} {catches : Str → Bool} {n : Str} {i : Nat} {body suite : List Stmt} {b₀ : Stmt} {t : Expr} {pos pos' : Pos} {ans : Value → Bool → Prop} {wb ws : MTS} (hans : ∀ C ∈ cs, ans (.ref (He.ga X.K C)) (catches C)) (ht : ExTest X t ans) (cm : CM X W k)
    (hs : X.stack = X.env :: X.outer) (hf : X.env.frame = some X.env.locals) (hex : X.ex = []) (hi : X.N[i]? = some n) (hln : X.env.kindOf n = some .local)
    (hb : ∀ (W' : WX) (pn : List (Addr × Obj)) (xe : Value → Shared → Prop), CM (X.tr pn xe) W' k → SsOk (X.tr pn xe) W' body wb)
    (hsu : ∀ (a : Addr) (pn : List (Addr × Obj)), SsOk (X.suite a pn) W0 (b₀ :: suite) ws) :
    SOk X W (.Try body [.ExceptHandler (some t) (some n) (b₀ :: suite) pos'] [] [] pos) (wTryT cs catches i wb ws) :=
  PS.mono (ps_tryT (tb := fun W' => liftS X.K W' wb) (ts := fun _ _ _ => liftS X.K W0 ws) hs hf hex cm.nd hi hln ht cm.tk (fun W' pn xe tk po => hb W' pn xe (cm_tr cm tk po)) fun a cls d pn => hsu a pn) fun D σ H ⟨f, sm, mh, D', a, q⟩ => by
    refine ⟨f, sm, mh, { D' with xc := xcT cs catches i ws D' }, ⟨a.h, a.s, a.nx, a.rt, a.bk, a.ct, ?_⟩, q⟩
    rintro cls d σ' H' ⟨f1, mh1, sm1, C, ks, ms, us, dx, p1, x1, r1, s1, e1, e2, e3, l, rv, C', ks', ms', e4, hC, q1⟩
    cases e4
    subst e1 e2
    have b1 := a.step p1 x1 r1 s1
    refine ⟨catches C, hans C hC, fun hc ad hna => ?_, fun hc => ?_⟩
    · rw [if_pos hc] at q1
      have x2 : Ext H' (upd H' ad (ExO ad (.ref (He.ga X.K C)) (some dx))) := Ext.new hna
      have nd : dx ≠ ad := fun z => by rw [z, hna] at e3; cases e3
      refine ⟨f1, sm1.set i (some (.exc C ks ms)), mh1, _, ⟨r1.new hna, (s1.mono (List.prefix_refl _) x2).set ⟨ad, dx, us, rfl, upd_same, (upd_ne nd).trans e3, l, rv.mono (List.prefix_refl _) x2⟩, ?_, ?_, ?_, ?_, ?_⟩, q1⟩
      · rintro σ2 H2 ⟨f2, mh2, sm2, p2, y2, r2, s2, q2⟩
        exact b1.nx _ _ ⟨f2, mh2, _, p2, x2.trans y2, r2, s2.unset, q2⟩
      · rintro v H2 z
        exact b1.rt _ _ (z.back (List.prefix_refl _) x2)
      · rintro σ2 H2 ⟨f2, mh2, sm2, p2, y2, r2, s2, q2⟩
        exact b1.bk _ _ ⟨f2, mh2, _, p2, x2.trans y2, r2, s2.unset, q2⟩
      · rintro σ2 H2 ⟨f2, mh2, sm2, p2, y2, r2, s2, q2⟩
        exact b1.ct _ _ ⟨f2, mh2, _, p2, x2.trans y2, r2, s2.unset, q2⟩
      · rintro cls d σ2 H2 ⟨_, _, _, _, _, _, _, _, _, _, _, _, _, _, _, _, _, z⟩
        exact z.elim
    · rw [if_neg (by rw [hc]; simp)] at q1
      exact b1.xc _ _ _ _ ⟨f1, mh1, sm1, C, ks, ms, us, dx, List.prefix_refl _, Ext.refl _, r1, s1, rfl, rfl, e3, l, rv, q1⟩
end

/-! ### what a caught exception tells -/
/-- what the class must have for its instances to be looked at -/
structure ExcK (K : PySem.W.Frag) (D : Addr) : Prop where
  cl : (PySem.W.clsIn K D).isSome = true
  hg : PySem.W.findIn K (.ref D) "__getattribute__" = some (some (.builtin "BaseException.__getattribute__"))
  hk : PySem.W.findIn K (.ref D) "__getattr__" = some none
  hs : PySem.W.subIn K (.ref D) (.type "BaseException") = some true
  hd : PySem.W.hasDictIn K D = true
  ha : PySem.W.findIn K (.ref D) "__class__" = some (some (.builtin "object.__class__"))
  hn : PySem.W.specialIn K (.builtin "object.__class__") "__get__" = some (some (.builtin "getset_descriptor.__get__"))
  ht : PySem.W.takesIn K (.builtin "object.__class__") = some true
  hm : PySem.W.mroIn K D (.type "object") = some true
section
variable {X : Cx} {pins : List (Addr × Obj)} {σ : L2.St} {H : Hp} {s : Shared}
theorem exo_inst {a d D : Addr} {fs : List (Str × V)} (I : Inv X pins σ H s) (ea : H a = some (ExO a (.ref D) (some d))) (ed : H d = some (.xd fs)) :
    ∃ oe od, PySem.W.InstAt s.heap a oe D (some od) ∧ ∃ mA : Str → Option Value, (∀ f, RelO (fs.lookup f) (mA f)) ∧ ∀ n, PySem.W.lookIn n od = some (mA n) := by
  obtain ⟨⟨oe, vs, h1, h2, h3, h4⟩, _, _⟩ := I.hok a _ ea
  obtain ⟨mA, hns, hr⟩ := I.hok d _ ed
  obtain ⟨od, ho, hl⟩ := lookIn_ns hns
  exact ⟨oe, od, ⟨h1, h2, by unfold PySem.W.notCls; rw [h4] <;> rfl, by rw [h3]; exact ho⟩, mA, hr, hl⟩
end

/-! ### isinstance(e, C), e.f -/
def fldOf : List Str → List M → Str → Option M
  | k :: ks, m :: ms, n => if n = k then some m else fldOf ks ms n
  | _, _, _ => none
theorem fld_rel {K : PySem.W.Frag} {f : List Addr} {H : Hp} : ∀ {ks : List Str} {ms : List M} {us : List V} {n : Str} {m : M}, RVs K f H ms us → fldOf ks ms n = some m → ∃ v, (ks.zip us).lookup n = some v ∧ RV K f H m v
  | [], _, _, _, _, _, h => by unfold fldOf at h; cases h
  | _ :: _, [], _, _, _, _, h => by unfold fldOf at h; cases h
  | k :: ks, m :: ms, us, n, m', ⟨v, r, e, h1, h2⟩, h => by
    subst e
    unfold fldOf at h
    rw [List.zip_cons_cons]
    by_cases hn : n = k
    · rw [if_pos hn] at h
      cases h
      subst hn
      exact ⟨v, by rw [List.lookup_cons_self], h1⟩
    · rw [if_neg hn] at h
      obtain ⟨w, a, b⟩ := fld_rel h2 h
      refine ⟨w, ?_, b⟩
      rw [List.lookup_cons, show (n == k) = false from by simpa using hn]
      exact a
section
variable {X : Cx} {W : WX}
/-- e.f, e a caught exception -/
theorem m_xfld {cs : List Str} {e : Expr} {we : MTE} {n : Str} {pos : Pos} (T : ∀ C ∈ cs, ExcK X.K (He.ga X.K C) ∧ PySem.W.findIn X.K (.ref (He.ga X.K C)) n = some none) (he : EOk X W e we) (hb : attributeBase e n X.env (eval e X.env) = eval e X.env := by rfl) :
    EOk X W (.Attribute e n pos) (fun sm h Q E => we sm h (fun x h1 => ∃ C ks ms m, x = .exc C ks ms ∧ C ∈ cs ∧ fldOf ks ms n = some m ∧ Q m h1) E) := by
  refine ⟨fun pins s σ H Q I h => ?_⟩
  obtain ⟨f, sm, mh, Q', E, a, q, k⟩ := h
  refine attr_of hb (thn (PE.run' he pins s σ H (fun v H1 => ∃ f1 mh1 C ks ms m, f <+: f1 ∧ Ext H H1 ∧ RH X.K f1 mh1 H1 ∧ RV X.K f1 H1 (.exc C ks ms) v ∧ C ∈ cs ∧ fldOf ks ms n = some m ∧ Q' m mh1) I (a.go q ?_)) fun u s1 hh => ?_)
  · rintro f1 mh1 H1 m v p x a1 r1 ⟨C, ks, ms, m', rfl, hC, hf, q1⟩
    exact ⟨f1, mh1, C, ks, ms, m', p, x, a1.h, r1, hC, hf, q1⟩
  obtain ⟨v, H1, I1, rx, f1, mh1, C, ks, ms, m, p, x, r1, ⟨ad, d, us, rfl, ea, ed, hl, rv⟩, hC, hf, q1⟩ := hh
  obtain rfl : u = Value.ref ad := rx
  obtain ⟨oe, od, J, mA, hr, hlk⟩ := exo_inst I1 ea ed
  obtain ⟨w, hw, rw'⟩ := fld_rel rv hf
  obtain ⟨T1, T2⟩ := T C hC
  obtain ⟨u, hu, ru⟩ := RelO.some_of (v := w) (o := mA n) (by rw [← hw]; exact hr n)
  exact HandSPX.exc_get I1.kIn J T1.hg T1.hk T1.hs (PySem.W.findObj_own T1.hd T2 rfl (by rw [hlk, hu])) (handed_of ru) ⟨w, H1, I1.tok _, ru, k _ _ ⟨f1, mh1, m, p, x, r1, rw', q1⟩⟩
end
end Mn
end
section
set_option maxHeartbeats 2000000
namespace Mn
open PySem PySem.Spec PyProof.Rows L2

/-! ### calls of built-in functions -/
abbrev MF := List M → MH → KM → Prop
def wFn (m : MF) (wa : MTA) : MTE := fun sm h Q E => wa sm h (fun ms h1 => m ms h1 Q) E
section
variable {X : Cx} {W : WX} {x : Str} {p pos : Pos} {e : Expr} {es : List Expr} {wa : MTA} {r : List V → Hp → VK → Prop} {m : MF}
theorem fn_rd {r : List V → Hp → VK → Prop} {m : MF} (l : LsR X.K r m) {wa : MTA} {σ : L2.St} {H : Hp} {Q : VK} (h : liftE X.K W (wFn m wa) σ H Q) : tCB r (liftA X.K W wa) σ H Q := by
  obtain ⟨f, sm, mh, Q', E, a, q, k⟩ := h
  exact a.goA q fun f1 mh1 H1 ms vs p x a1 r1 q1 => l f1 mh1 H1 ms vs Q' Q a1.h r1 q1 fun v H' z => k v H' (z.back p x)
theorem m_fnB {id : String} (hc : CallR X (.builtin id) r) (l : LsR X.K r m) (hg : Gl X x) (hm : X.mg x = none) (hv : bootBuiltins x = some (.builtin id)) (ha : AOk X W (e :: es) wa) (hn : x ≠ "__name__" := by decide) (hdb : (x == ("__debug__" : Str)) = false := by decide)
    (hs : starEach (e :: es) X.env = (false, eval e X.env) :: starEach es X.env := by rfl) (hpl : (backTo pos (starEach es X.env)).any (·.1) = false := by rfl) : EOk X W (.Call (.Name x p) (e :: es) [] pos) (wFn m wa) :=
  PE.mono (pe_callB hc hg hm hv ha hn hdb hs hpl) fun σ H Q h => fn_rd l h
theorem m_fnT {T : String} (hc : CallR X (.type T) r) (l : LsR X.K r m) (hg : Gl X x) (hm : X.mg x = none) (hv : bootBuiltins x = some (.type T)) (ha : AOk X W (e :: es) wa) (hn : x ≠ "__name__" := by decide) (hdb : (x == ("__debug__" : Str)) = false := by decide)
    (hs : starEach (e :: es) X.env = (false, eval e X.env) :: starEach es X.env := by rfl) (hpl : (backTo pos (starEach es X.env)).any (·.1) = false := by rfl) : EOk X W (.Call (.Name x p) (e :: es) [] pos) (wFn m wa) :=
  PE.mono (pe_callTy hc hg hm hv ha hn hdb hs hpl) fun σ H Q h => fn_rd l h
end
section
variable {K : PySem.W.Frag} {f : List Addr} {H : Hp}
theorem RVs.one {m : M} {vs : List V} (h : RVs K f H [m] vs) : ∃ v, vs = [v] ∧ RV K f H m v := by
  obtain ⟨v, r, rfl, h1, rfl⟩ := h; exact ⟨v, rfl, h1⟩
theorem RVs.two {m n : M} {vs : List V} (h : RVs K f H [m, n] vs) : ∃ v u, vs = [v, u] ∧ RV K f H m v ∧ RV K f H n u := by
  obtain ⟨v, r, rfl, h1, u, s, rfl, h2, rfl⟩ := h; exact ⟨v, u, rfl, h1, h2⟩
end
/-! len -/
def lenM (h : MH) (m : M) : Option Nat := match m with
  | .str s => if s.length ≤ SZ then some s.length else none
  | .tup xs => some xs.length
  | .ref n => (itemsM h (.ref n)).map (·.length)
  | _ => none
def fLen : MF := fun ms h Q => ∃ m n, ms = [m] ∧ lenM h m = some n ∧ Q (.int n) h
theorem l_len {X : Cx} : LsR X.K (fun xs H Q => ∃ x n, xs = [x] ∧ LenV X.K x H n ∧ Q (.int n) H) fLen := by
  intro f mh H ms vs Q' Q r rvs q k
  obtain ⟨m, n, rfl, hn, q⟩ := q
  obtain ⟨v, rfl, rv⟩ := rvs.one
  refine ⟨v, n, rfl, ?_, k _ _ (QL.same r (m := .int n) rfl q)⟩
  have gen : ∀ m xs, itemsM mh m = some xs → xs.length = n → RV X.K f H m v → LenV X.K v H n := by
    intro m xs hx hn rv
    subst hn
    obtain ⟨a, us, rfl, s, rr⟩ := items_rd r rv hx
    rcases s with s | s
    · exact .inl ⟨us, .inl s, rr.length⟩
    · exact .inr ⟨us, s, rr.length⟩
  unfold lenM at hn
  split at hn
  · rename_i s
    have e : v = .str s := rv
    subst e
    split at hn
    · rename_i hs
      have e2 := Option.some.inj hn
      subst e2
      exact ⟨by rw [SZ_eq]; exact hs, rfl⟩
    · exact absurd hn (by simp)
  · rename_i xs
    exact gen _ xs rfl (Option.some.inj hn) rv
  · rename_i k'
    obtain ⟨xs, hx, e⟩ := Option.map_eq_some_iff.mp hn
    exact gen _ xs hx e rv
  · exact absurd hn (by simp)
/-! min, max of two, abs, int -/
def fI2 (g : Int → Int → Int) : MF := fun ms h Q => ∃ i j, ms = [.int i, .int j] ∧ Q (.int (g i j)) h
def fMin2 : MF := fI2 fun i j => if j < i then j else i
def fMax2 : MF := fI2 fun i j => if j > i then j else i
theorem l_i2 {X : Cx} {g : Int → Int → Int} : LsR X.K (fun xs H Q => ∃ i j, xs = [.int i, .int j] ∧ Q (.int (g i j)) H) (fI2 g) := by
  intro f mh H ms vs Q' Q r rv q k
  obtain ⟨i, j, rfl, q⟩ := q
  obtain ⟨v, u, rfl, r1, r2⟩ := rv.two
  have e1 : v = .int i := r1
  have e2 : u = .int j := r2
  subst e1 e2
  exact ⟨i, j, rfl, k _ _ (QL.same r (m := .int _) rfl q)⟩
def fAbs : MF := fun ms h Q => ∃ i : Int, ms = [.int i] ∧ Q (.int (if i < 0 then -i else i)) h
theorem l_abs {X : Cx} : LsR X.K (fun xs H Q => ∃ i, xs = [.int i] ∧ Q (.int (if i < 0 then -i else i)) H) fAbs := by
  intro f mh H ms vs Q' Q r rv q k
  obtain ⟨i, rfl, q⟩ := q
  obtain ⟨v, rfl, r1⟩ := rv.one
  have e1 : v = .int i := r1
  subst e1
  exact ⟨i, rfl, k _ _ (QL.same r (m := .int _) rfl q)⟩
def fInt : MF := fun ms h Q => (∃ i : Int, ms = [.int i] ∧ Q (.int i) h) ∨ ∃ b : Bool, ms = [.bl b] ∧ Q (.int (if b then 1 else 0)) h
theorem l_int1 {X : Cx} : LsR X.K (fun xs H Q => (∃ i, xs = [.int i] ∧ Q (.int i) H) ∨ ∃ k, xs = [.bl k] ∧ Q (.int (if k then 1 else 0)) H) fInt := by
  intro f mh H ms vs Q' Q r rv q k
  rcases q with ⟨i, rfl, q⟩ | ⟨b, rfl, q⟩
  · obtain ⟨v, rfl, r1⟩ := rv.one
    have e1 : v = .int i := r1
    subst e1
    exact .inl ⟨i, rfl, k _ _ (QL.same r (m := .int _) rfl q)⟩
  · obtain ⟨v, rfl, r1⟩ := rv.one
    have e1 : v = .bl b := r1
    subst e1
    exact .inr ⟨b, rfl, k _ _ (QL.same r (m := .int _) rfl q)⟩
/-! list, tuple -/
def fList : MF := fun ms h Q => ∃ m xs, ms = [m] ∧ itemsM h m = some xs ∧ Q (.ref h.length) (h ++ [.lst xs])
theorem l_list {X : Cx} : LsR X.K (fun xs H Q => ∃ p ys, xs = [.ref p] ∧ (SqL X.K H p ys ∨ SqT X.K H p ys) ∧ ∀ l, H l = none → Q (.ref l) (upd H l (.lst ys))) fList := by
  intro f mh H ms vs Q' Q r rv q k
  obtain ⟨m, xs, rfl, hx, q⟩ := q
  obtain ⟨v, rfl, r1⟩ := rv.one
  obtain ⟨a, us, rfl, s, rr⟩ := items_rd r r1 hx
  exact ⟨a, us, rfl, s.imp (fun s => .inl s) id, fun l hl => k _ _ (QL.lst r rr hl q)⟩
def fTuple : MF := fun ms h Q => ∃ m xs, ms = [m] ∧ itemsM h m = some xs ∧ Q (.tup xs) h
theorem l_tuple {X : Cx} : LsR X.K (fun xs H Q => ∃ p ys, xs = [.ref p] ∧ ((SqL X.K H p ys ∧ ∀ l, H l = none → Q (.ref l) (upd H l (.tup ys))) ∨ (SqT X.K H p ys ∧ Q (.ref p) H))) fTuple := by
  intro f mh H ms vs Q' Q r rv q k
  obtain ⟨m, xs, rfl, hx, q⟩ := q
  obtain ⟨v, rfl, r1⟩ := rv.one
  obtain ⟨a, us, rfl, s, rr⟩ := items_rd r r1 hx
  refine ⟨a, us, rfl, s.imp (fun s => ⟨.inl s, fun l hl => k _ _ (QL.tup r rr hl q)⟩) fun s => ⟨s, k _ _ (QL.same r (m := .tup xs) ⟨a, us, rfl, s, rr⟩ q)⟩⟩
/-! sum, max, min, sorted, any, all of a list -/
def fSum : MF := fun ms h Q => ∃ (n : Nat) (is : List Int), ms = [.ref n] ∧ itemsM h (.ref n) = some (is.map M.int) ∧ Q (.int is.sum) h
theorem l_sum {X : Cx} : LsR X.K (rSum X.K) fSum := by
  intro f mh H ms vs Q' Q r rv q k
  obtain ⟨n, is, rfl, hx, q⟩ := q
  obtain ⟨v, rfl, r1⟩ := rv.one
  obtain ⟨a, us, rfl, s, rr⟩ := ref_rd r r1 hx
  have := rr.ints
  subst this
  exact ⟨a, is, rfl, .inl s, k _ _ (QL.same r (m := .int _) rfl q)⟩
def fMaxL : MF := fun ms h Q => ∃ (n : Nat) (is : List Int), ms = [.ref n] ∧ itemsM h (.ref n) = some (is.map M.int) ∧ is ≠ [] ∧ ∀ m, m ∈ is → (∀ y ∈ is, y ≤ m) → Q (.int m) h
theorem l_maxL {X : Cx} : LsR X.K (rMax X.K) fMaxL := by
  intro f mh H ms vs Q' Q r rv q k
  obtain ⟨n, is, rfl, hx, ne, q⟩ := q
  obtain ⟨v, rfl, r1⟩ := rv.one
  obtain ⟨a, us, rfl, s, rr⟩ := ref_rd r r1 hx
  have := rr.ints
  subst this
  exact ⟨a, is, rfl, .inl s, List.length_pos_iff.mpr ne, fun m h1 h2 => k _ _ (QL.same r (m := .int _) rfl (q m h1 h2))⟩
def fMinL : MF := fun ms h Q => ∃ (n : Nat) (is : List Int), ms = [.ref n] ∧ itemsM h (.ref n) = some (is.map M.int) ∧ is ≠ [] ∧ ∀ m, m ∈ is → (∀ y ∈ is, m ≤ y) → Q (.int m) h
theorem l_minL {X : Cx} : LsR X.K (rMin X.K) fMinL := by
  intro f mh H ms vs Q' Q r rv q k
  obtain ⟨n, is, rfl, hx, ne, q⟩ := q
  obtain ⟨v, rfl, r1⟩ := rv.one
  obtain ⟨a, us, rfl, s, rr⟩ := ref_rd r r1 hx
  have := rr.ints
  subst this
  exact ⟨a, is, rfl, .inl s, List.length_pos_iff.mpr ne, fun m h1 h2 => k _ _ (QL.same r (m := .int _) rfl (q m h1 h2))⟩
def fSorted : MF := fun ms h Q => ∃ (n : Nat) (is : List Int), ms = [.ref n] ∧ itemsM h (.ref n) = some (is.map M.int) ∧ ∀ js : List Int, js.Perm is → js.Pairwise (· ≤ ·) → Q (.ref h.length) (h ++ [.lst (js.map M.int)])
theorem l_sorted {X : Cx} : LsR X.K (rSortedI X.K) fSorted := by
  intro f mh H ms vs Q' Q r rv q k
  obtain ⟨n, is, rfl, hx, q⟩ := q
  obtain ⟨v, rfl, r1⟩ := rv.one
  obtain ⟨a, us, rfl, s, rr⟩ := ref_rd r r1 hx
  have := rr.ints
  subst this
  exact ⟨a, is, rfl, .inl s, fun js p h1 h2 hp => k _ _ (QL.lst r (RVs.of_ints js) hp (q js h1 h2))⟩
theorem RVs.bls {K : PySem.W.Frag} {f : List Addr} {H : Hp} : ∀ {is : List Bool} {vs : List V}, RVs K f H (is.map M.bl) vs → vs = is.map V.bl
  | [], _, h => h
  | _ :: _, _, ⟨v, r, e, h, t⟩ => by subst e; cases h; simp [RVs.bls t]
def fAny : MF := fun ms h Q => ∃ (n : Nat) (bs : List Bool), ms = [.ref n] ∧ itemsM h (.ref n) = some (bs.map M.bl) ∧ Q (.bl (bs.any id)) h
theorem l_any {X : Cx} : LsR X.K (rAny X.K) fAny := by
  intro f mh H ms vs Q' Q r rv q k
  obtain ⟨n, is, rfl, hx, q⟩ := q
  obtain ⟨v, rfl, r1⟩ := rv.one
  obtain ⟨a, us, rfl, s, rr⟩ := ref_rd r r1 hx
  have := rr.bls
  subst this
  exact ⟨a, is, rfl, .inl s, k _ _ (QL.same r (m := .bl _) rfl q)⟩
def fAll : MF := fun ms h Q => ∃ (n : Nat) (bs : List Bool), ms = [.ref n] ∧ itemsM h (.ref n) = some (bs.map M.bl) ∧ Q (.bl (bs.all id)) h
theorem l_all {X : Cx} : LsR X.K (rAll X.K) fAll := by
  intro f mh H ms vs Q' Q r rv q k
  obtain ⟨n, is, rfl, hx, q⟩ := q
  obtain ⟨v, rfl, r1⟩ := rv.one
  obtain ⟨a, us, rfl, s, rr⟩ := ref_rd r r1 hx
  have := rr.bls
  subst this
  exact ⟨a, is, rfl, .inl s, k _ _ (QL.same r (m := .bl _) rfl q)⟩
end Mn
end
section
set_option maxHeartbeats 2000000
namespace Mn
open PySem PySem.Spec PyProof.Rows L2

/-! ### displays, constants, globals -/
def wLst (wa : MTA) : MTE := fun sm h Q E => wa sm h (fun ms h1 => ms.length ≤ SZ ∧ Q (.ref h1.length) (h1 ++ [.lst ms])) E
def wTup (wa : MTA) : MTE := fun sm h Q E => wa sm h (fun ms h1 => ms.length ≤ SZ ∧ Q (.tup ms) h1) E
def wDct0 : MTE := fun sm h Q E => Q (.ref h.length) (h ++ [.dct []])
section
variable {X : Cx} {W : WX} {es : List Expr} {wa : MTA} {pos : Pos}
theorem m_lst (ha : AOk X W es wa) : EOk X W (.List es pos) (wLst wa) :=
  PE.mono (pe_lst ha) fun σ H Q ⟨f, sm, mh, Q', E, a, q, k⟩ => a.goA q fun f1 mh1 H1 ms vs p x a1 r1 ⟨sz, q1⟩ =>
    ⟨by rw [SZ_eq, ← r1.length]; exact sz, fun ad hp => k _ _ ((QL.lst a1.h r1 hp q1).back p x)⟩
theorem m_tup {x1 : Nat} (ha : AOk X W es wa) : EOk X W (.Tuple es x1 pos) (wTup wa) :=
  PE.mono (pe_tup ha) fun σ H Q ⟨f, sm, mh, Q', E, a, q, k⟩ => a.goA q fun f1 mh1 H1 ms vs p x a1 r1 ⟨sz, q1⟩ =>
    ⟨by rw [SZ_eq, ← r1.length]; exact sz, fun ad hp => k _ _ ((QL.tup a1.h r1 hp q1).back p x)⟩
theorem m_dct0 : EOk X W (.Dict [] [] pos) wDct0 :=
  PE.mono pe_dnewK fun σ H Q ⟨f, sm, mh, Q', E, a, q, k⟩ => fun ad hp => by
    have x : Ext H (upd H ad (.dK [])) := Ext.new hp
    have q : Q' (.ref mh.length) (mh ++ [.dct []]) := q
    refine k _ _ ⟨f ++ [ad], mh ++ [.dct []], .ref mh.length, List.prefix_append _ _, x, a.h.alloc (o := .dct []) hp ⟨[], upd_same, rfl⟩, ⟨ad, rfl, ?_⟩, q⟩
    rw [List.getElem?_append_right (by rw [a.h.len]; exact Nat.le_refl _), a.h.len]; simp
variable {i : Int} {j : Nat} {b : Bool} {s : Str} {x : Str}
theorem m_int : EOk X W (.Constant (.int i) j pos) (wCon (.int i)) := m_con pe_int fun _ _ => rfl
theorem m_bl : EOk X W (.Constant (.bool b) j pos) (wCon (.bl b)) := m_con pe_bl fun _ _ => rfl
theorem m_non : EOk X W (.Constant .none j pos) (wCon .non) := m_con pe_non fun _ _ => rfl
theorem m_str : EOk X W (.Constant (.str s) j pos) (wCon (.str s)) := m_con pe_str fun _ _ => rfl
theorem m_gint {t : Tok} (hg : Gl X x) (hm : X.mg x = some (.int i t)) (hdb : (x == ("__debug__" : Str)) = false := by decide) : EOk X W (.Name x pos) (wCon (.int i)) := m_con (pe_glob (v := .int i) hg hm ⟨t, rfl⟩ hdb) fun _ _ => rfl
theorem m_ty {T : String} (hg : Gl X x) (hm : X.mg x = none) (hv : bootBuiltins x = some (.type T)) (hn : x ≠ "__name__" := by decide) (hdb : (x == ("__debug__" : Str)) = false := by decide) : EOk X W (.Name x pos) (wCon (.ty T)) := m_con (pe_bltn (v := .ty T) hg hm hv rfl hn hdb) fun _ _ => rfl
theorem m_cls (hg : Gl X x) (hm : X.mg x = some (.ref (He.ga X.K x))) (hdb : (x == ("__debug__" : Str)) = false := by decide) : EOk X W (.Name x pos) (wCon (.glo x)) := m_con (pe_glob (v := .ref (He.ga X.K x)) hg hm rfl hdb) fun _ _ => rfl
end

/-! ### isinstance -/
def tyM (h : MH) (m : M) : Option String := match m with
  | .non => some "NoneType"
  | .bl _ => some "bool"
  | .int _ => some "int"
  | .str _ => some "str"
  | .tup _ => some "tuple"
  | .ref n => match h[n]? with
    | some (.lst _) => some "list"
    | some (.rol _) => some "list"
    | some (.dct _) => some "dict"
    | _ => none
  | _ => none
def tyList : List String := ["NoneType", "bool", "int", "str", "tuple", "list", "dict"]
def isa (t T : String) : Bool := t == T || (t == "bool" && T == "int")
theorem kit_tab : ∀ t ∈ tyList, ∀ T ∈ tyList, kitB t T = some (isa t T) := by decide +kernel
theorem tyM_ok {K : PySem.W.Frag} {f : List Addr} {mh : MH} {H : Hp} (r : RH K f mh H) {m : M} {v : V} {t : String} (rv : RV K f H m v) (h : tyM mh m = some t) : TyX K H v (.type t) ∧ t ∈ tyList := by
  unfold tyM at h
  split at h
  · cases h; have e : v = .non := rv; subst e; exact ⟨.base .non, by decide⟩
  · cases h; have e : v = .bl _ := rv; subst e; exact ⟨.base (.bl _), by decide⟩
  · cases h; have e : v = .int _ := rv; subst e; exact ⟨.base (.int _), by decide⟩
  · cases h; have e : v = .str _ := rv; subst e; exact ⟨.base (.str _), by decide⟩
  · cases h
    obtain ⟨a, vs, rfl, s, _⟩ := rv
    rcases s with (s | ⟨o, s⟩) | ⟨o, its, n, hk, hc, _⟩
    · exact ⟨.base (.tup s), by decide⟩
    · exact ⟨.fTuple s, by decide⟩
    · exact ⟨.kTuple hk hc, by decide⟩
  · rename_i n
    obtain ⟨a, rfl, ha⟩ := rv
    split at h
    · rename_i xs e
      cases h
      obtain ⟨b, hb, vs, e1, _⟩ := r.at e
      rw [ha] at hb; cases hb
      exact ⟨.base (.lst e1), by decide⟩
    · rename_i xs e
      cases h
      obtain ⟨b, hb, o, vs, e1, _⟩ := r.at e
      rw [ha] at hb; cases hb
      exact ⟨.base (.frz e1), by decide⟩
    · rename_i xs e
      cases h
      obtain ⟨b, hb, ks, e1, _⟩ := r.at e
      rw [ha] at hb; cases hb
      exact ⟨.base (.dK e1), by decide⟩
    · cases h
  · cases h
/-- what the class's value is -/
def clsVal (K : PySem.W.Frag) (m : M) : Option Value := match m with
  | .ty n => some (.type n)
  | .glo x => some (.ref (He.ga K x))
  | _ => none
/-- the answers for exceptions: xt C c -/
def XtOk (K : PySem.W.Frag) (xt : Str → M → Option Bool) : Prop := ∀ C c b, xt C c = some b → ExcK K (He.ga K C) ∧ ∃ u, clsVal K c = some u ∧ PySem.W.kitOne K (.ref (He.ga K C)) u = some b
def isiM (xt : Str → M → Option Bool) (h : MH) (ms : List M) : Option Bool := match ms with
  | [.exc C _ _, c] => xt C c
  | [m, .ty T] => match tyM h m with
    | some t => if T ∈ tyList then some (isa t T) else none
    | none => none
  | _ => none
def fIsi (xt : Str → M → Option Bool) : MF := fun ms h Q => ∃ b, isiM xt h ms = some b ∧ Q (.bl b) h
def rIsiA (K : PySem.W.Frag) : List V → Hp → VK → Prop := fun xs H Q => rIsi K xs H Q ∨
  ∃ a D d fs c u b, xs = [.ref a, c] ∧ ExcK K D ∧ H a = some (ExO a (.ref D) (some d)) ∧ H d = some (.xd fs) ∧ ClsV c u ∧ PySem.W.kitOne K (.ref D) u = some b ∧ Q (.bl b) H
theorem call_isiA {X : Cx} : CallR X (.builtin "isinstance") (rIsiA X.K) := by
  intro pins s σ H xs us Q I r h
  rcases h with h | ⟨a, D, d, fs, c, u, b, rfl, T, ea, ed, k, e, q⟩
  · exact call_isi pins s σ H xs us Q I r h
  · obtain ⟨u1, u2, rfl, r1, r2⟩ := vals2 r
    have e2 := k.eq r2
    subst e2
    obtain rfl : u1 = Value.ref a := r1
    obtain ⟨oe, od, J, _⟩ := exo_inst I ea ed
    exact PySem.W.kia_one (PySem.W.kitx_exc T.cl T.hg T.hk T.hs T.ha T.hn T.ht T.hm) I.kIn J e (fun z => nomatch z) fun tk => ⟨.bl b, H, I.tok tk, rfl, q⟩
theorem l_isi {X : Cx} {xt : Str → M → Option Bool} (hx : XtOk X.K xt) : LsR X.K (rIsiA X.K) (fIsi xt) := by
  intro f mh H ms vs Q' Q r rvs q k
  obtain ⟨b, hb, q⟩ := q
  have fin : Q (.bl b) H := k _ _ (QL.same r (m := .bl b) rfl q)
  unfold isiM at hb
  split at hb
  · rename_i C ks ms' c
    obtain ⟨T, u, hu, he⟩ := hx _ _ _ hb
    obtain ⟨v, w, rfl, ⟨ad, d, us, rfl, ea, ed, hl, rv⟩, rc⟩ := rvs.two
    refine .inr ⟨ad, _, d, _, w, u, b, rfl, T, ea, ed, ?_, he, fin⟩
    unfold clsVal at hu
    split at hu
    · cases hu; have e : w = .ty _ := rc; subst e; exact .ty _
    · cases hu; have e : w = .ref _ := rc; subst e; exact .own _
    · cases hu
  · rename_i m T _
    obtain ⟨v, w, rfl, rv, rc⟩ := rvs.two
    have e : w = .ty T := rc
    subst e
    split at hb
    · rename_i t ht
      split at hb
      · rename_i hT
        cases hb
        obtain ⟨ty, hm⟩ := tyM_ok r rv ht
        exact .inl ⟨v, .ty T, .type t, .type T, _, rfl, .ty T, ty, kit_ty (kit_tab t hm T hT), fin⟩
      · cases hb
    · cases hb
  · cases hb

/-! ### repr -/
/-- Reads of data as the small heap has them -/
theorem sys_free {X : Cx} {pins : List (Addr × Obj)} {σ : L2.St} {H : Hp} {s : Shared} (I : Inv X pins σ H s) (hs : ∃ o, X.K.lookup sysModules = some o) {a : Addr} {o : HO} (h : H a = some o) : a ≠ sysModules := by
  rintro rfl
  obtain ⟨o', hk⟩ := hs
  have z := (I.bs _ _ (I.ok.mod.kin _ _ hk)).2
  rw [h] at z; cases z
theorem pd_depth (mh : MH) : ∀ (n : Nat) (m : M) (d : PyData), pd mh n m = some d → d.depth ≤ n := by
  intro n
  have all : ∀ (n : Nat), (∀ (m : M) (d : PyData), pd mh n m = some d → d.depth ≤ n) → ∀ (xs : List M) (ds : List PyData), pdL (pd mh n) xs = some ds → PyData.depthAll ds ≤ n := by
    intro n ih xs
    induction xs with
    | nil => intro ds h; cases h; exact Nat.zero_le _
    | cons x xs ihx =>
      intro ds h
      obtain ⟨d, rd, rfl, h1, h2⟩ := pdL_cons h
      exact Nat.max_le.mpr ⟨ih x d h1, ihx rd h2⟩
  induction n with
  | zero =>
    intro m d h
    cases m with
    | non => cases h; exact Nat.zero_le _
    | bl b => cases h; exact Nat.zero_le _
    | int i => cases h; exact Nat.zero_le _
    | str s => cases h; exact Nat.zero_le _
    | _ => cases h
  | succ n ih =>
    intro m d h
    cases m with
    | non => cases h; exact Nat.zero_le _
    | bl b => cases h; exact Nat.zero_le _
    | int i => cases h; exact Nat.zero_le _
    | str s => cases h; exact Nat.zero_le _
    | tup xs =>
      have h : (pdL (pd mh n) xs).map PyData.tuple = some d := h
      obtain ⟨ds, h1, rfl⟩ := Option.map_eq_some_iff.mp h
      exact Nat.succ_le_succ (all n ih xs ds h1)
    | ref k =>
      have h : (match mh[k]? with | some (.lst xs) => (pdL (pd mh n) xs).map PyData.list | some (.dct []) => some (.dict []) | _ => none) = some d := h
      split at h
      · obtain ⟨ds, h1, rfl⟩ := Option.map_eq_some_iff.mp h
        exact Nat.succ_le_succ (all n ih _ ds h1)
      · cases h; exact Nat.succ_le_succ (Nat.zero_le _)
      · cases h
    | _ => cases h
theorem pd_reads {X : Cx} {pins : List (Addr × Obj)} {σ : L2.St} {H : Hp} {s : Shared} {f : List Addr} {mh : MH} (I : Inv X pins σ H s) (hs : ∃ o, X.K.lookup sysModules = some o) (r : RH X.K f mh H) :
    ∀ (n : Nat) (m : M) (d : PyData) (v : V) (u : Value), pd mh n m = some d → RV X.K f H m v → RelV v u → ∃ as, Reads s.heap u d as ∧ sysModules ∉ as := by
  intro n
  have all : ∀ (n : Nat), (∀ (m : M) (d : PyData) (v : V) (u : Value), pd mh n m = some d → RV X.K f H m v → RelV v u → ∃ as, Reads s.heap u d as ∧ sysModules ∉ as) →
      ∀ (xs : List M) (ds : List PyData) (vs : List V) (us : List Value), pdL (pd mh n) xs = some ds → RVs X.K f H xs vs → Vals vs us → ∃ as, ReadsAll s.heap us ds as ∧ sysModules ∉ as := by
    intro n ih xs
    induction xs with
    | nil => intro ds vs us h rv ru; cases h; cases rv; cases ru; exact ⟨_, .nil, by simp⟩
    | cons x xs ihx =>
      intro ds vs us h rv ru
      obtain ⟨d, rd, rfl, h1, h2⟩ := pdL_cons h
      obtain ⟨v, rr, rfl, r1, r2⟩ := rv
      cases ru with
      | cons u1 u2 =>
        obtain ⟨as, q1, n1⟩ := ih x d v _ h1 r1 u1
        obtain ⟨bs, q2, n2⟩ := ihx rd rr _ h2 r2 u2
        exact ⟨_, .cons q1 q2, by simp [n1, n2]⟩
  have flat : ∀ (n : Nat) (m : M) (d : PyData) (v : V) (u : Value), (∀ xs, m ≠ .tup xs) → (∀ k, m ≠ .ref k) → pd mh n m = some d → RV X.K f H m v → RelV v u → ∃ as, Reads s.heap u d as ∧ sysModules ∉ as := by
    intro n m d v u n1 n2 h rv ru
    have h0 : pd mh n m = pd mh 0 m := by
      cases n with
      | zero => rfl
      | succ n => cases m <;> first | rfl | exact absurd rfl (n1 _) | exact absurd rfl (n2 _)
    rw [h0] at h
    cases m with
    | non => cases h; have e : v = .non := rv; subst e; cases (show u = Value.none from ru); exact ⟨_, .none, by simp⟩
    | bl b => cases h; have e : v = .bl b := rv; subst e; cases (show u = Value.bool b from ru); exact ⟨_, .bool b, by simp⟩
    | int i => cases h; have e : v = .int i := rv; subst e; obtain ⟨t, rfl⟩ := ru; exact ⟨_, .int i t, by simp⟩
    | str x => cases h; have e : v = .str x := rv; subst e; obtain ⟨t, rfl⟩ := ru; exact ⟨_, .str x t, by simp⟩
    | _ => cases h
  induction n with
  | zero =>
    intro m d v u h rv ru
    refine flat 0 m d v u ?_ ?_ h rv ru
    · rintro xs rfl; cases h
    · rintro k rfl; cases h
  | succ n ih =>
    intro m d v u h rv ru
    cases m with
    | tup xs =>
      have h : (pdL (pd mh n) xs).map PyData.tuple = some d := h
      obtain ⟨ds, h1, rfl⟩ := Option.map_eq_some_iff.mp h
      obtain ⟨a, vs, rfl, s, rr⟩ := rv
      cases (show u = Value.ref a from ru)
      obtain ⟨its, rv, ⟨o, ho, hc, n, hd⟩, _⟩ := I.tuple s
      obtain ⟨as, q1, n1⟩ := all _ ih xs ds vs its h1 rr rv
      exact ⟨_, .tuple ho hc hd q1, n1⟩
    | ref k =>
      have h : (match mh[k]? with | some (.lst xs) => (pdL (pd mh n) xs).map PyData.list | some (.dct []) => some (.dict []) | _ => none) = some d := h
      split at h
      · rename_i xs e
        obtain ⟨ds, h1, rfl⟩ := Option.map_eq_some_iff.mp h
        obtain ⟨a, vs, rfl, ha, e1, rr⟩ := r.lst e rv
        cases (show u = Value.ref a from ru)
        obtain ⟨its, rv, ⟨o, n, ho, hc, _, hd⟩, _⟩ := I.list (SqL.of e1)
        obtain ⟨as, q1, n1⟩ := all _ ih xs ds vs its h1 rr rv
        exact ⟨_, .list ho hc hd q1, by simp [n1, Ne.symm (sys_free I hs e1)]⟩
      · rename_i e
        cases h
        obtain ⟨a, rfl, ha⟩ := rv
        obtain ⟨b, hb, ks, e1, rk⟩ := r.at e
        rw [ha] at hb; cases hb
        have e2 : ks = [] := rk
        subst e2
        cases (show u = Value.ref a from ru)
        obtain ⟨_, _, vs, kv, o, es, ep, ho, ex, hd, _, hp, _⟩ := I.hok a _ e1
        cases kv
        have he : es.toList = [] := by generalize es.toList = l at hp; cases hp; rfl
        refine ⟨_, .dict (kvs := []) ho ex.1 hd (as := []) (bs := []) ?_ ?_, by simp [Ne.symm (sys_free I hs e1)]⟩
        · rw [he]; exact .nil
        · rw [he]; exact .nil
      · cases h
    | _ => exact flat _ _ d v u (by intro _ z; cases z) (by intro _ z; cases z) h rv ru
def RepOk (d : PyData) : Prop := d.showable = true ∧ d.shown.length ≤ SZ
def fRep : MF := fun ms h Q => ∃ m d, ms = [m] ∧ pd h 60 m = some d ∧ RepOk d ∧ Q (.str d.shown) h
def rRepA (X : Cx) : List V → Hp → VK → Prop := fun xs H Q => ∃ x f mh m d, xs = [x] ∧ RH X.K f mh H ∧ RV X.K f H m x ∧ pd mh 60 m = some d ∧ RepOk d ∧ Q (.str d.shown) H
theorem call_repA {X : Cx} {W : WX} {k : Nat} (c : CM X W k) : CallR X (.builtin "repr") (rRepA X) := by
  intro pins s σ H xs us Q I r h
  obtain ⟨x, f, mh, m, d, rfl, rh, rv, hd, ⟨sh, sz⟩, q⟩ := h
  obtain ⟨u, rfl, ru⟩ := vals1 r
  obtain ⟨as, hr, hn⟩ := pd_reads I c.sm rh 60 m d x u hd rv ru
  have hdp := pd_depth mh 60 m d hd
  have hu : X.A.units + (d.depth + 1) < cLine := by have := c.rm.r.un; omega
  rw [← SZ_eq] at sz
  cases hr with
  | none => exact P.repr_of_none ⟨.str _, H, I.tok _, ⟨_, rfl⟩, q⟩
  | bool b => exact P.repr_of_bool ⟨.str _, H, I.tok _, ⟨_, rfl⟩, q⟩
  | int i t => exact P.repr_of_int (by simpa [PyData.showable] using sh) ⟨.str _, H, I.tok _, ⟨_, rfl⟩, q⟩
  | str y t => exact P.repr_of_str ⟨.str _, H, I.tok _, ⟨_, rfl⟩, q⟩ sz
  | list e1 e2 e3 e4 => exact repr_of_reads' (.list e1 e2 e3 e4) sh (fun _ => hn) c.rm.g hu (fun _ _ z => z) (fun h' u tk k => ⟨.str _, H, I.kept k, ⟨_, rfl⟩, q⟩) sz
  | tuple e1 e2 e3 e4 => exact repr_of_reads' (.tuple e1 e2 e3 e4) sh (fun _ => hn) c.rm.g hu (fun _ _ z => z) (fun h' u tk k => ⟨.str _, H, I.kept k, ⟨_, rfl⟩, q⟩) sz
  | dict e1 e2 e3 e4 e5 => exact repr_of_reads' (.dict e1 e2 e3 e4 e5) sh (fun _ => hn) c.rm.g hu (fun _ _ z => z) (fun h' u tk k => ⟨.str _, H, I.kept k, ⟨_, rfl⟩, q⟩) sz
theorem l_rep {X : Cx} : LsR X.K (rRepA X) fRep := by
  intro f mh H ms vs Q' Q r rvs q k
  obtain ⟨m, d, rfl, hd, ok, q⟩ := q
  obtain ⟨v, rfl, rv⟩ := rvs.one
  exact ⟨v, f, mh, m, d, rfl, r, rv, hd, ok, k _ _ (QL.same r (m := .str _) rfl q)⟩
end Mn
end
section
set_option maxHeartbeats 2000000
namespace Mn
open PySem PySem.Spec PyProof.Rows L2

/-! ### methods of lists -/
abbrev MM := M → List M → MH → KM → Prop
def LmR (K : PySem.W.Frag) (r : V → List V → Hp → VK → Prop) (m : MM) : Prop := ∀ (f : List Addr) (mh : MH) (H : Hp) (x : M) (xv : V) (ms : List M) (vs : List V) (Q' : KM) (Q : VK), RH K f mh H → RV K f H x xv → RVs K f H ms vs → m x ms mh Q' → (∀ v H', QL K f H Q' v H' → Q v H') → r xv vs H Q
def wBm (m : MM) (wo : MTE) (wa : MTA) : MTE := fun sm h Q E => wo sm h (fun x h1 => (∃ n xs, x = .ref n ∧ itemsM h1 (.ref n) = some xs) ∧ wa sm h1 (fun ms h2 => m x ms h2 Q) E) E
section
variable {X : Cx} {W : WX} {o e : Expr} {es : List Expr} {wo : MTE} {wa : MTA} {name : Str} {apos cpos : Pos} {id : String} {r : V → List V → Hp → VK → Prop} {m : MM}
theorem tyV_list {K : PySem.W.Frag} {f : List Addr} {mh : MH} {H : Hp} {n : Nat} {xs : List M} {v : V} (r : RH K f mh H) (rv : RV K f H (.ref n) v) (h : itemsM mh (.ref n) = some xs) : tyV K "list" v H := by
  obtain ⟨a, us, rfl, s, rr⟩ := ref_rd r rv h
  exact .inl ⟨rfl, us, .inl s⟩
theorem m_bm (slot : Slot "list" name id) (hty : typeOf (.builtin id) = pure (.type "method_descriptor")) (hm : MtR X id r) (l : LmR X.K r m) (ho : EOk X W o wo) (ha : AOk X W (e :: es) wa)
    (hbase : attributeBase o name X.env (eval o X.env) = eval o X.env := by rfl)
    (hfew : ((backTo cpos (starEach (e :: es) X.env)).all (fun x => !x.1) && (backToKw cpos (keywordEach [] X.env)).all (fun x => x.1.isSome)
      && decide ((e :: es).length + ([] : List Keyword).length + (if ([] : List Keyword).isEmpty then 0 else 1) < 30)) = true := by rfl)
    (hline : (apos.endLine == cpos.line) = true := by rfl) (hs : starEach (e :: es) X.env = (false, eval e X.env) :: starEach es X.env := by rfl) (hplain : (backTo cpos (starEach es X.env)).any (·.1) = false := by rfl) :
    EOk X W (.Call (.Attribute o name apos) (e :: es) [] cpos) (wBm m wo wa) :=
  PE.mono (pe_bm PySem.F.plainAttrs_list slot hty hm ho ha hbase hfew hline hs hplain) fun σ H Q ⟨f, sm, mh, Q', E, a, q, k⟩ => a.go q fun f1 mh1 H1 x v p1 x1 a1 r1 ⟨⟨n, xs, e1, e2⟩, q1⟩ => by
    subst e1
    refine ⟨tyV_list a1.h r1 e2, a1.goA q1 fun f2 mh2 H2 ms vs p2 x2 a2 r2 q2 => l f2 mh2 H2 _ v ms vs Q' Q a2.h (r1.mono p2 x2) r2 q2 fun v H' z => k v H' ((z.back p2 x2).back p1 x1)⟩
theorem m_bm0 (slot : Slot "list" name id) (hty : typeOf (.builtin id) = pure (.type "method_descriptor")) (hm : MtR X id r) (l : LmR X.K r m) (ho : EOk X W o wo)
    (hbase : attributeBase o name X.env (eval o X.env) = eval o X.env := by rfl) (hline : (apos.endLine == cpos.line) = true := by rfl) :
    EOk X W (.Call (.Attribute o name apos) [] [] cpos) (wBm m wo wNil) :=
  PE.mono (pe_bm0 PySem.F.plainAttrs_list slot hty hm ho hbase hline) fun σ H Q ⟨f, sm, mh, Q', E, a, q, k⟩ => a.go q fun f1 mh1 H1 x v p1 x1 a1 r1 ⟨⟨n, xs, e1, e2⟩, q1⟩ => by
    subst e1
    exact ⟨tyV_list a1.h r1 e2, l f1 mh1 H1 _ v [] [] Q' Q a1.h r1 rfl q1 fun v H' z => k v H' (z.back p1 x1)⟩
end
section
variable {K : PySem.W.Frag} {f : List Addr} {mh : MH} {H : Hp} {Q' : KM} {Q : VK}
/-- a list is written, and something is told -/
theorem QL.wr {n : Nat} {a : Addr} {xs ys : List M} {vs us : List V} {m : M} {v : V} (r : RH K f mh H) (ha : f[n]? = some a) (e : H a = some (.lst vs)) (rv : RVs K f H ys us) (rm : RV K f H m v) (q : Q' m (mh.set n (.lst ys))) : QL K f H Q' v (upd H a (.lst us)) := by
  have x : Ext H (upd H a (.lst us)) := Ext.put e fun z => z
  exact ⟨f, _, m, List.prefix_refl _, x, r.put (o := .lst ys) ha e (fun z => z) ⟨us, upd_same, rv.mono (List.prefix_refl _) x⟩, rm.mono (List.prefix_refl _) x, q⟩
end
def kAppend : MM := fun x ms h Q => ∃ n xs y, x = .ref n ∧ ms = [y] ∧ h[n]? = some (.lst xs) ∧ xs.length < SZ ∧ Q .non (h.set n (.lst (xs ++ [y])))
theorem l_append {X : Cx} : LmR X.K rAppend kAppend := by
  intro f mh H x xv ms vs Q' Q r rx rvs q k
  obtain ⟨n, xs, y, rfl, rfl, hn, sz, q⟩ := q
  obtain ⟨v, rfl, ry⟩ := rvs.one
  obtain ⟨a, us, rfl, ha, e, rr⟩ := r.lst hn rx
  exact ⟨a, us, v, rfl, rfl, e, by rw [SZ_eq, ← rr.length]; exact sz, k _ _ (QL.wr (xs := xs) (m := .non) r ha e (rr.append (show RVs X.K f H [y] [v] from ⟨v, [], rfl, ry, rfl⟩)) rfl q)⟩
def kExtend : MM := fun x ms h Q => ∃ n b xs zs, x = .ref n ∧ ms = [.ref b] ∧ h[n]? = some (.lst xs) ∧ h[b]? = some (.lst zs) ∧ xs.length + zs.length ≤ SZ ∧ Q .non (h.set n (.lst (xs ++ zs)))
theorem l_extend {X : Cx} : LmR X.K rExtend kExtend := by
  intro f mh H x xv ms vs Q' Q r rx rvs q k
  obtain ⟨n, b, xs, zs, rfl, rfl, hn, hb, sz, q⟩ := q
  obtain ⟨v, rfl, ry⟩ := rvs.one
  obtain ⟨a, us, rfl, ha, e, rr⟩ := r.lst hn rx
  obtain ⟨c, ws, rfl, hc, e2, rr2⟩ := r.lst hb ry
  exact ⟨a, c, us, ws, rfl, rfl, e, e2, by rw [SZ_eq, ← rr.length, ← rr2.length]; exact sz, k _ _ (QL.wr (xs := xs) (m := .non) r ha e (rr.append rr2) rfl q)⟩
theorem RVs.dropLast {K : PySem.W.Frag} {f : List Addr} {H : Hp} {ms : List M} {vs : List V} (h : RVs K f H ms vs) : RVs K f H ms.dropLast vs.dropLast := by
  rw [List.dropLast_eq_take, List.dropLast_eq_take, h.length]; exact h.take _
theorem RVs.eraseIdx {K : PySem.W.Frag} {f : List Addr} {H : Hp} {ms : List M} {vs : List V} (h : RVs K f H ms vs) (j : Nat) : RVs K f H (ms.eraseIdx j) (vs.eraseIdx j) := by
  rw [List.eraseIdx_eq_take_drop_succ, List.eraseIdx_eq_take_drop_succ]; exact (h.take _).append (h.drop _)
def kPop : MM := fun x ms h Q => ∃ n xs y, x = .ref n ∧ ms = [] ∧ h[n]? = some (.lst xs) ∧ xs.getLast? = some y ∧ Q y (h.set n (.lst xs.dropLast))
theorem l_pop {X : Cx} : LmR X.K rPop kPop := by
  intro f mh H x xv ms vs Q' Q r rx rvs q k
  obtain ⟨n, xs, y, rfl, rfl, hn, hy, q⟩ := q
  have e0 : vs = [] := rvs
  subst e0
  obtain ⟨a, us, rfl, ha, e, rr⟩ := r.lst hn rx
  rw [List.getLast?_eq_getElem?] at hy
  obtain ⟨v, hv, rv⟩ := rr.get hy
  exact ⟨a, us, v, rfl, rfl, e, by rw [← rr.length]; exact hv, k _ _ (QL.wr (xs := xs) r ha e rr.dropLast rv q)⟩
def kPopAt : MM := fun x ms h Q => ∃ n xs i j y, x = .ref n ∧ ms = [.int i] ∧ h[n]? = some (.lst xs) ∧ -(2 ^ 63) ≤ i ∧ i < 2 ^ 63 ∧ ixN xs.length i = some j ∧ xs[j]? = some y ∧ Q y (h.set n (.lst (xs.eraseIdx j)))
theorem l_popAt {X : Cx} : LmR X.K rPopAt kPopAt := by
  intro f mh H x xv ms vs Q' Q r rx rvs q k
  obtain ⟨n, xs, i, j, y, rfl, rfl, hn, b1, b2, hj, hy, q⟩ := q
  obtain ⟨v, rfl, rv⟩ := rvs.one
  have e0 : v = .int i := rv
  subst e0
  obtain ⟨a, us, rfl, ha, e, rr⟩ := r.lst hn rx
  obtain ⟨v, hv, rv⟩ := rr.get hy
  exact ⟨a, us, i, j, v, rfl, rfl, e, b1, b2, by rw [← rr.length]; exact (ixN_seq hj).1, hv, k _ _ (QL.wr (xs := xs) r ha e (rr.eraseIdx j) rv q)⟩
def kReverse : MM := fun x ms h Q => ∃ n xs, x = .ref n ∧ ms = [] ∧ h[n]? = some (.lst xs) ∧ Q .non (h.set n (.lst xs.reverse))
theorem l_reverse {X : Cx} : LmR X.K rReverse kReverse := by
  intro f mh H x xv ms vs Q' Q r rx rvs q k
  obtain ⟨n, xs, rfl, rfl, hn, q⟩ := q
  have e0 : vs = [] := rvs
  subst e0
  obtain ⟨a, us, rfl, ha, e, rr⟩ := r.lst hn rx
  exact ⟨a, us, rfl, rfl, e, k _ _ (QL.wr (xs := xs) (m := .non) r ha e rr.reverse rfl q)⟩

/-! ### flat values: in, index, count -/
def flatM : M → Bool
  | .non => true
  | .bl _ => true
  | .int _ => true
  | .str _ => true
  | _ => false
def eqM : M → M → Bool
  | .non, .non => true
  | .bl a, .bl b => a == b
  | .bl a, .int b => (if a then 1 else 0) == b
  | .int a, .bl b => a == (if b then 1 else 0)
  | .int a, .int b => a == b
  | .str a, .str b => a == b
  | _, _ => false
def vOf : M → V
  | .non => .non
  | .bl b => .bl b
  | .int i => .int i
  | .str s => .str s
  | _ => .non
theorem flat_rv {K : PySem.W.Frag} {f : List Addr} {H : Hp} {m : M} {v : V} (h : flatM m = true) (r : RV K f H m v) : v = vOf m ∧ flatV v = true := by
  cases m with
  | non => have e : v = .non := r; subst e; exact ⟨rfl, rfl⟩
  | bl b => have e : v = .bl b := r; subst e; exact ⟨rfl, rfl⟩
  | int i => have e : v = .int i := r; subst e; exact ⟨rfl, rfl⟩
  | str s => have e : v = .str s := r; subst e; exact ⟨rfl, rfl⟩
  | _ => cases h
theorem eq_vOf {a b : M} (ha : flatM a = true) (hb : flatM b = true) : eqV (vOf a) (vOf b) = eqM a b := by
  cases a <;> cases b <;> first | rfl | exact Bool.noConfusion ha | exact Bool.noConfusion hb
theorem flat_rvs {K : PySem.W.Frag} {f : List Addr} {H : Hp} : ∀ {ms : List M} {vs : List V}, ms.all flatM = true → RVs K f H ms vs → vs = ms.map vOf ∧ vs.all flatV = true
  | [], _, _, r => by cases r; exact ⟨rfl, rfl⟩
  | m :: ms, _, h, ⟨v, r, e, h1, h2⟩ => by
    subst e
    rw [List.all_cons, Bool.and_eq_true] at h
    obtain ⟨a1, a2⟩ := flat_rv h.1 h1
    obtain ⟨b1, b2⟩ := flat_rvs h.2 h2
    subst a1 b1
    exact ⟨rfl, by rw [List.all_cons, a2, b2]; rfl⟩
theorem any_vOf {x : M} (hx : flatM x = true) : ∀ {ms : List M}, ms.all flatM = true → (ms.map vOf).any (fun y => eqV y (vOf x)) = ms.any (fun y => eqM y x)
  | [], _ => rfl
  | m :: ms, h => by
    rw [List.all_cons, Bool.and_eq_true] at h
    rw [List.map_cons, List.any_cons, List.any_cons, eq_vOf h.1 hx, any_vOf hx h.2]
theorem cnt_vOf {x : M} (hx : flatM x = true) : ∀ {ms : List M}, ms.all flatM = true → (ms.map vOf).countP (fun y => eqV y (vOf x)) = ms.countP (fun y => eqM y x)
  | [], _ => rfl
  | m :: ms, h => by
    rw [List.all_cons, Bool.and_eq_true] at h
    rw [List.map_cons, List.countP_cons, List.countP_cons, eq_vOf h.1 hx, cnt_vOf hx h.2]
def mIn (neg : Bool) : MR2 := fun x y h Q => ∃ xs, itemsM h y = some xs ∧ flatM x = true ∧ xs.all flatM = true ∧ Q (.bl (if neg then !xs.any (fun z => eqM z x) else xs.any (fun z => eqM z x))) h
theorem l_in {X : Cx} {neg : Bool} : L2R X.K (rIn X.K neg) (mIn neg) := by
  intro f mh H x y xv yv Q' Q r rx ry ⟨xs, h1, h2, h3, q⟩ k
  obtain ⟨a, vs, rfl, s, rr⟩ := items_rd r ry h1
  obtain ⟨e1, f1⟩ := flat_rv h2 rx
  obtain ⟨e2, f2⟩ := flat_rvs h3 rr
  refine ⟨a, vs, rfl, s.imp (fun s => .inl s) id, f1, f2, ?_⟩
  subst e1 e2
  refine k _ _ (QL.same r (m := .bl _) ?_ q)
  show V.bl _ = V.bl _
  unfold inV
  rw [any_vOf h2 h3]
def kIndex : MM := fun x ms h Q => ∃ n xs y j z, x = .ref n ∧ ms = [y] ∧ itemsM h (.ref n) = some xs ∧ flatM y = true ∧ xs.all flatM = true ∧ xs[j]? = some z ∧ eqM z y = true ∧ (∀ m z', m < j → xs[m]? = some z' → eqM z' y = false) ∧ Q (.int (j : Nat)) h
theorem all_at {xs : List M} (h : xs.all flatM = true) {j : Nat} {z : M} (e : xs[j]? = some z) : flatM z = true := List.all_eq_true.mp h z (List.mem_of_getElem? e)
theorem l_index {X : Cx} : LmR X.K (rIndex X.K) kIndex := by
  intro f mh H x xv ms vs Q' Q r rx rvs q k
  obtain ⟨n, xs, y, j, z, rfl, rfl, hn, fy, fx, hz, he, hb, q⟩ := q
  obtain ⟨v, rfl, rv⟩ := rvs.one
  obtain ⟨a, us, rfl, s, rr⟩ := ref_rd r rx hn
  obtain ⟨e1, f1⟩ := flat_rv fy rv
  obtain ⟨e2, f2⟩ := flat_rvs fx rr
  subst e1 e2
  refine ⟨a, _, _, j, vOf z, rfl, rfl, .inl s, f1, f2, by rw [List.getElem?_map, hz]; rfl, by rw [eq_vOf (all_at fx hz) fy]; exact he, fun m z' hm hz' => ?_, k _ _ (QL.same r (m := .int _) rfl q)⟩
  rw [List.getElem?_map] at hz'
  obtain ⟨z0, h0, rfl⟩ := Option.map_eq_some_iff.mp hz'
  rw [eq_vOf (all_at fx h0) fy]
  exact hb m z0 hm h0
def rCount (K : PySem.W.Frag) : V → List V → Hp → VK → Prop := fun x xs H Q => ∃ p ys y, x = .ref p ∧ xs = [y] ∧ SqL K H p ys ∧ flatV y = true ∧ ys.all flatV = true ∧ Q (.int (ys.countP (fun z => eqV z y) : Nat)) H
theorem cnt_eqU {x : V} : ∀ {xs : List V} {us : List Value}, Vals xs us → xs.all flatV = true → us.countP (eqU x) = xs.countP fun y => eqV y x
  | _, _, .nil, _ => rfl
  | _, _, .cons r t, h => by
    rw [List.all_cons, Bool.and_eq_true] at h
    rw [List.countP_cons, List.countP_cons, eqU_of r h.1, cnt_eqU t h.2]
theorem mt_countF {X : Cx} : MtR X "list.count" (rCount X.K) := by
  intro pins s σ H x xs v us Q I rx rxs h
  obtain ⟨p, ys, y, rfl, rfl, hs, fy, fys, q⟩ := h
  cases rx
  obtain ⟨u, rfl, ru⟩ := rxs.one
  obtain ⟨its, rv, ⟨⟨cls, dd, data, sl⟩, n, ho, hc, hdn, hd⟩, hlen⟩ := I.list hs
  simp only at hc hd
  subst hc hd
  refine call_meets PySem.F.slot_list_count ⟨_, ho, rfl⟩ PySem.F.entry_list_count (PySem.F.args_list_count_2 _ _)
    (SeqAt.list_countAt p its.toArray n dd sl u (eqU y)) ⟨ho, fun u' hu' => mem_eqAt ru fy rv fys u' (by simpa using hu'), ?_⟩
  refine ⟨.int (ys.countP (fun z => eqV z y) : Nat), H, I.tok _, ⟨s.toks, ?_⟩, q⟩
  rw [List.toList_toArray, cnt_eqU rv fys]
def kCount : MM := fun x ms h Q => ∃ n xs y, x = .ref n ∧ ms = [y] ∧ itemsM h (.ref n) = some xs ∧ flatM y = true ∧ xs.all flatM = true ∧ Q (.int (xs.countP (fun z => eqM z y) : Nat)) h
theorem l_count {X : Cx} : LmR X.K (rCount X.K) kCount := by
  intro f mh H x xv ms vs Q' Q r rx rvs q k
  obtain ⟨n, xs, y, rfl, rfl, hn, fy, fx, q⟩ := q
  obtain ⟨v, rfl, rv⟩ := rvs.one
  obtain ⟨a, us, rfl, s, rr⟩ := ref_rd r rx hn
  obtain ⟨e1, f1⟩ := flat_rv fy rv
  obtain ⟨e2, f2⟩ := flat_rvs fx rr
  subst e1 e2
  refine ⟨a, _, _, rfl, rfl, .inl s, f1, f2, k _ _ (QL.same r (m := .int _) ?_ q)⟩
  show V.int _ = V.int _
  rw [cnt_vOf fy fx]
end Mn
end
section
set_option maxHeartbeats 2000000
namespace Mn
open PySem PySem.Spec PyProof.Rows L2
open LamX (CodeO TabS Tabs ExtN TabB LamS lamCx lamEnv)

/-! ### x(lambda: body), where the def x calls what it got -/
section
variable {X : Cx} {pins : List (Addr × Obj)} {σ : L2.St} {H : Hp} {s : Shared}
/-- the call within the def: exceptions are wished at the slots of that very state -/
theorem pe_actM {CXg : CXT} {Eg : XK} {Ng : List Str} {qg : Str} {sg : Scope} {g f c' : Addr} {cdg pm ctv : Value} {params : Arguments} {body : Expr} {scope : Scope} {k i : Nat} {a : Str} {pn : List (Addr × Obj)} {xe : Value → Shared → Prop} {W : WX} {t : XK → TE} {p1 p2 : Pos}
    (I : Inv X pins σ H s) (L : LamS X.env.scope scope) (hf : s.heap.get? f = some (PySem.W.kla_obj "<lambda>" (X.env.qual ++ "<lambda>") params body scope (cloFrom X.env.cells scope.names []) pm c' ctv)) (hfn : H f = none) (hfr : f ∉ frs X.stack)
    (hbind : bindArgs (PySem.W.kla_fn "<lambda>" (X.env.qual ++ "<lambda>") params body scope (cloFrom X.env.cells scope.names []) pm (.ref c') ctv) ⟨[], []⟩ = pure [])
    (tk : Takes ((cxOf CXg X.prog X.w X.K X.mg X.base Ng qg sg g cdg X.A X.stack s H Eg).tr pn xe) W) (hr : RoomG (k + 1) (X.A.deeper (envOfC qg sg s.heap.objs.size g cdg)))
    (hbody : ∀ (A : Around) (outer : List Env) (s : Shared) (H : Hp) (E : XK), RoomG k (A.deeper (lamEnv X scope s.heap.objs.size f c')) → PE (lamCx X A outer s H E scope f c') body (t E))
    (hN : Ng[i]? = some a) (hv : Vis sg a) (hd : (a == ("__debug__" : Str)) = false) (hcd : (a == ("__classdict__" : Str)) = false) :
    PE ((cxOf CXg X.prog X.w X.K X.mg X.base Ng qg sg g cdg X.A X.stack s H Eg).tr pn xe) (.Call (.Name a p1) [] [] p2)
      (fun σZ HZ Q => σZ[i]? = some (some (.ref f)) ∧ HZ c' = some (CodeO c' (X.env.qual ++ "<lambda>")) ∧ t (fun cls d H' => W cls d σZ H') σ HZ Q) := by
  refine ⟨fun pinsZ sZ σZ HZ Q IZ ⟨hs, hc, ht⟩ => ?_⟩
  have var := (pe_var (pos := p1) (i := i) hN hv hd hcd).run pinsZ sZ σZ HZ (fun v H1 => v = .ref f ∧ H1 = HZ) IZ ⟨.ref f, hs, rfl, rfl⟩
  refine wpAny_Call_Name_kw (thn var fun u s1 ⟨v, H1, I1, r1, ev, eH⟩ => ?_)
  subst ev
  rw [eH] at I1
  cases (show u = Value.ref f from r1)
  have atf := I1.base.keep f _ hf hfn hfr (fun z => nomatch (show f ∈ ([] : List Addr) from z))
  obtain ⟨⟨oc, vs, tq, hoc, hdc, hvc⟩, _, _⟩ := I1.hok c' _ hc
  refine PySem.W.callWith_F0 ⟨_, _, _, _, atf⟩ (wpAny_call ?_)
  have un : Un (frs X.stack) [] H HZ s.heap s1.heap := I1.base
  refine codeAny_mono (PySem.W.kla_callFunE hr.r.depth atf rfl L.co L.gen rfl ⟨c', oc, vs, tq, rfl, hoc, hdc, hvc⟩ ?_) fun r s' (hq : CR (L2.CX X.prog X.w) (envOfC qg sg s.heap.objs.size g cdg :: X.stack) X.prog X.w HZ s1 Q (fun cls d H' => W cls d σZ H') r s') => ?_
  · refine wpAny_of_eq (a := []) hbind ?_
    refine (wpAny_newFunctionEnv (fun y hy => (L.own y hy).2) (fun y hy => absurd hy (by simp)) (fun h₁ hns hsb => ⟨I1.nolimit.fresh _ hsb, ?_⟩) L.kind)
    have kp : ∀ b o, s1.heap.get? b = some o → h₁.get? b = some o := fun b o e => hsb.extBut b o (Nat.ne_of_lt (Heap.lt_size e)) (Heap.get?_push_of_some _ e)
    have J := LamX.lam_start2 (A := X.A.deeper (envOfC qg sg s.heap.objs.size g cdg)) (outer := envOfC qg sg s.heap.objs.size g cdg :: X.stack) (E := fun cls d H' => W cls d σZ H') (f := f) (c' := c') (tk := s1.toks + ([] : List (Str × Value)).length) I L I1.env0 hr.r.hd un hns kp
    show codeAny _ _ (.expr body (lamEnv X scope s1.heap.objs.size f c')) _ _
    refine PySem.W.kla_codeExpr (wpAny_mono ((hbody _ _ s1 HZ (fun cls d H' => W cls d σZ H') (hr.deeper _)).run [] _ _ HZ Q J ht) (fun v s' hq => ?_) fun e s' hq => hq)
    obtain ⟨w', H', J', rv, q⟩ := hq
    exact ⟨w', H', J'.os, J'.bare, J'.base, J'.hok, rv, q⟩
  · cases r with
    | error e => exact tk e s' (XE.of_call I1 (fun cls d H' q => q) hq)
    | ok fl =>
      cases fl with
      | ret u => exact I1.after hq
      | next => exact False.elim hq
      | brk => exact False.elim hq
      | cont => exact False.elim hq
end
/-- the tables that a small heap tells -/
def tabsOf (mh : MH) : List (Addr × Str) := mh.filterMap fun o => match o with
  | .tab P q => some (P, q)
  | _ => none
theorem mem_tabs {mh : MH} {p : Addr × Str} : p ∈ tabsOf mh ↔ ∃ i : Nat, mh[i]? = some (O.tab p.1 p.2) := by
  unfold tabsOf
  rw [List.mem_filterMap]
  constructor
  · rintro ⟨o, ho, e⟩
    obtain ⟨i, hi, rfl⟩ := List.getElem_of_mem ho
    refine ⟨i, ?_⟩
    rw [List.getElem?_eq_getElem hi]
    split at e
    · rename_i P q h
      cases e
      rw [h]
    · cases e
  · rintro ⟨i, hi⟩
    exact ⟨_, List.mem_of_getElem? hi, rfl⟩
theorem RH.tabs {K : PySem.W.Frag} {f : List Addr} {mh : MH} {H : Hp} (r : RH K f mh H) : Tabs (tabsOf mh) H := by
  intro p hp
  obtain ⟨i, hi⟩ := mem_tabs.mp hp
  obtain ⟨a, _, rfl, t⟩ := r.at hi
  exact t
theorem ext_of_extN {H H1 : Hp} (e : ExtN H H1) : Ext H H1 := fun b o h s => e b o h (by rintro ps rfl; exact s.elim)
theorem RH.lamMade {K : PySem.W.Frag} {f : List Addr} {mh : MH} {H H1 : Hp} (r : RH K f mh H) (e : ExtN H H1) (t : Tabs (tabsOf mh) H1) : RH K f mh H1 where
  len := r.len
  nd := r.nd
  ob := fun n o a h g => by
    have q := r.ob n o a h g
    have x := ext_of_extN e
    cases o with
    | lst xs => obtain ⟨vs, e1, rv⟩ := q; exact ⟨vs, e _ _ e1 (by rintro ps z; cases z), rv.mono (List.prefix_refl _) x⟩
    | rol xs => obtain ⟨o, vs, e1, rv⟩ := q; exact ⟨o, vs, e _ _ e1 (by rintro ps z; cases z), rv.mono (List.prefix_refl _) x⟩
    | dct _ => obtain ⟨ks, e1, rv⟩ := q; exact ⟨ks, e _ _ e1 (by rintro ps z; cases z), rv.mono (List.prefix_refl _) x⟩
    | ins C ks ms => obtain ⟨dx, vs, e1, l, rv⟩ := q; exact ⟨dx, vs, e _ _ e1 (by rintro ps z; cases z), l, rv.mono (List.prefix_refl _) x⟩
    | tab P q' =>
      obtain ⟨rfl, _⟩ := q
      exact ⟨rfl, t (a, q') (mem_tabs.mpr ⟨n, h⟩)⟩

/-! ### the def that gets the lambda -/
abbrev toldCx (X : Cx) (Ng : List Str) (x : Str) (sg : Scope) (g : Addr) (cdg : Value) (s : Shared) (H : Hp) : Cx := cxOf C8.CX0 X.prog X.w X.K X.mg X.base Ng x sg g cdg X.A X.stack s H C8.E0
/-- what the def makes of the lambda's reading -/
abbrev TSp := (MH → KM → KM → Prop) → MH → KM → Prop
def endD (Q : KM) : MD := { nx := fun _ h => Q .non h, rt := Q, bk := fun _ _ => False, ct := fun _ _ => False, xc := fun _ _ _ => False }
def ToldM (X : Cx) (Ng : List Str) (x : Str) (sg : Scope) (g : Addr) (cdg : Value) (bg : List Stmt) (a : Str) (k : Nat) (sp : TSp) : Prop :=
  ∀ (f c' : Addr) (q : Str) (σ : L2.St) (bs : List Bool) (ms : List M) (s : Shared) (H : Hp) (tl : MH → KM → KM → Prop), RoomG k (toldCx X Ng x sg g cdg s H).A →
    (∀ (W : WX) (pn : List (Addr × Obj)) (xe : Value → Shared → Prop) (p1 p2 : Pos), Takes ((toldCx X Ng x sg g cdg s H).tr pn xe) W → EOk ((toldCx X Ng x sg g cdg s H).tr pn xe) W (.Call (.Name a p1) [] [] p2) (fun sm h Q E => sm[0]? = some (some (.lam f c' q σ bs ms)) ∧ tl h Q E)) →
    ∃ wb, SsOk (toldCx X Ng x sg g cdg s H).nox W0 bg wb ∧ ∀ h Q, sp tl h Q → wb (endD Q) (startM Ng [.lam f c' q σ bs ms]) h
def wLam (P : Addr) (q : Str) (sp : TSp) (w : MTE) : MTE := fun sm h Q E => (∃ i : Nat, h[i]? = some (.tab P q)) ∧ sp (fun h Q E => w sm h Q E) h Q
section
variable {X : Cx} {W : WX} {k : Nat}
theorem m_lamcall {sp : TSp} {x a : Str} {g c P : Addr} {pg : Arguments} {bg : List Stmt} {sg : Scope} {dV kV doc pm cdv ct oc : Value} {an od : Option Addr} {osl : Array (Option Value)} {Ng : List Str}
    {params : Arguments} {body : Expr} {scope : Scope} {w : MTE} {p lpos pos : Pos} (cm : CM X W (k + 2)) (hg : Gl X x) (hm : X.mg x = some (.ref g)) (hk : PySem.W.keepIn X.K (.ref g) = true)
    (lk : X.K.lookup g = some ⟨oc, od, .func (PySem.W.fnOf x x pg bg sg dV kV doc pm an cdv ct), osl⟩) (hcg : PySem.W.codeIn X.K cdv x = true) (hb : L2.Binds X.K (PySem.W.fnOf x x pg bg sg dV kV doc pm an cdv ct) [a] []) (Sg : FnScope Ng [a] sg) (hNg : Ng[0]? = some a) (hva : Vis sg a)
    (hG : ToldM X Ng x sg g cdv bg a (k + 1) sp)
    (TB : TabB X.base X.mg c P) (hcode : X.env.code = .ref c) (L : LamS X.env.scope scope) (hdef : defaultsOf params X.env = ([], []))
    (hbind : ∀ (q : Str) (cl : List (Str × Addr)) (pm cv ctv : Value), bindArgs (PySem.W.kla_fn "<lambda>" q params body scope cl pm cv ctv) ⟨[], []⟩ = pure [])
    (hbody : ∀ (A : Around) (outer : List Env) (s : Shared) (H : Hp) (E : XK) (f c' : Addr), RoomG k (A.deeper (lamEnv X scope s.heap.objs.size f c')) → EOk (lamCx X A outer s H E scope f c') (fun cls d _ H => E cls d H) body w)
    (hdb : (x == ("__debug__" : Str)) = false := by decide) (hd : (a == ("__debug__" : Str)) = false := by decide) (hcd : (a == ("__classdict__" : Str)) = false := by decide) :
    EOk X W (.Call (.Name x p) [.Lambda params body scope lpos] [] pos) (wLam P (X.env.qual ++ "<lambda>") sp w) := by
  refine ⟨fun pins s σ H Q I h => ?_⟩
  obtain ⟨f0, sm, mh, Q', E, a0, ⟨⟨i, hi⟩, q⟩, kk⟩ := h
  refine wpAny_Call_Name_kw (ld_glob I hg hm ?_ hdb)
  refine PySem.W.callWith_K (h₀ := X.base) I.ok.mod.kin hk ?_ (by rfl) (by rfl)
  show wpAny _ _ (spliced ((false, eval (.Lambda params body scope lpos) X.env) :: backTo pos (starEach [] X.env))) _ _ s
  obtain ⟨aP, hP, hPe, _⟩ := a0.h.at hi
  have hPf : f0[i]? = some P := hPe ▸ hP
  refine Calls.spliced_cons (LamX.lam_make2 (T := tabsOf mh) I TB hcode (mem_tabs.mpr ⟨i, hi⟩) (fun p hp e => ?_) a0.h.tabs hdef (L.has I.ok) fun f c' pm' ctv H1 s' I1 eN T1 hf hfn hfr hco => ?_)
  · obtain ⟨j, hj⟩ := mem_tabs.mp hp
    obtain ⟨aj, hja, hje, _⟩ := a0.h.at hj
    have : f0[j]? = some P := by rw [← e, ← hje]; exact hja
    have e2 := a0.h.inj this hPf
    subst e2
    rw [hi] at hj
    exact (O.tab.inj (Option.some.inj hj)).2.symm
  refine Calls.spliced_nil ⟨I1.kIn, ?_⟩
  have x1 : Ext H H1 := ext_of_extN eN
  have r1 : RH X.K f0 mh H1 := a0.h.lamMade eN T1
  have s1 : RS X.K f0 H1 sm σ := a0.s.mono (List.prefix_refl _) x1
  let bs := sm.map Option.isSome
  let ms := sm.map fun o => o.getD .non
  have lamv : RV X.K f0 H1 (.lam f c' (X.env.qual ++ "<lambda>") σ bs ms) (.ref f) := by
    have mk : ∀ (sm : MS) (σ : L2.St), RS X.K f0 H1 sm σ → ∃ vs, RVs X.K f0 H1 (sm.map fun o => o.getD .non) vs ∧ vs.length = σ.length ∧ ∀ (i : Nat) u, (sm.map Option.isSome)[i]? = some true → vs[i]? = some u → σ[i]? = some (some u) := by
      intro sm
      induction sm with
      | nil => intro σ r; exact ⟨[], rfl, r.len, fun i u e => by simp at e⟩
      | cons o sm ih =>
        intro σ r
        cases σ with
        | nil => have := r.len; simp at this
        | cons so σ =>
          obtain ⟨vs, h1, h2, h3⟩ := ih σ ⟨by have := r.len; simpa using this, fun i m e => by
            obtain ⟨v, h1, h2⟩ := r.at_ (i + 1) m (by simpa using e)
            exact ⟨v, by simpa using h1, h2⟩⟩
          cases o with
          | none =>
            refine ⟨.non :: vs, ⟨.non, vs, rfl, rfl, h1⟩, by simp [h2], fun i u e1 e2 => ?_⟩
            cases i with
            | zero => simp at e1
            | succ i => simpa using h3 i u (by simpa using e1) (by simpa using e2)
          | some m =>
            obtain ⟨v, g1, g2⟩ := r.at_ 0 m (by simp)
            refine ⟨v :: vs, ⟨v, vs, rfl, g2, h1⟩, by simp [h2], fun i u e1 e2 => ?_⟩
            cases i with
            | zero =>
              have : v = u := by simpa using e2
              subst this
              exact g1
            | succ i => simpa using h3 i u (by simpa using e1) (by simpa using e2)
    exact ⟨rfl, hco, mk sm σ s1⟩
  have rc : codeAny (model X.prog X.w) X.A (.call (.ref g) ⟨[.ref f], []⟩) (CR C8.CX0 X.stack X.prog X.w H1 s' Q C8.E0) s' := by
    refine LamX.run_ofS (k := k + 1) (N := Ng) (ps := [a]) (us := [.ref f]) (vs := [.ref f]) lk hcg Sg cm.rm.r I1.env0 (hb s' [.ref f] I1.kIn rfl) (.cons rfl .nil) rfl fun hr' => ?_
    have hrG : RoomG (k + 1) (X.A.deeper (envOfC x sg s'.heap.objs.size g cdv)) := ⟨hr', cm.rm.g⟩
    obtain ⟨wb, hwb, hsp⟩ := hG f c' (X.env.qual ++ "<lambda>") σ bs ms s' H1 (fun h Q E => w sm h Q E) hrG fun W' pn xe p1 p2 tk => by
      refine PE.mono (pe_actM (i := 0) (t := fun E => liftE X.K (fun cls d _ H => E cls d H) w) I1 L hf hfn hfr (hbind _ _ _ _ _) tk hrG (fun A outer s H E hr2 => hbody A outer s H E f c' hr2) hNg hva hd hcd) fun σZ HZ Qz ⟨fz, smz, mhz, Qz', Ez, az, ⟨h0, ht⟩, kz⟩ => ?_
      obtain ⟨v, e1, rfl, hc, vs, rvs, l, gg⟩ := az.s.at_ 0 _ h0
      refine ⟨e1, hc, fz, sm, mhz, Qz', Ez, ⟨az.h, ⟨a0.s.len, fun j m e => ?_⟩, fun cls d H' q => az.e cls d H' q⟩, ht, kz⟩
      obtain ⟨u, hu, ru⟩ := rvs.get (i := j) (m := m) (by show (sm.map _)[j]? = _; rw [List.getElem?_map, e]; rfl)
      exact ⟨u, gg j u (by show (sm.map _)[j]? = _; rw [List.getElem?_map, e]; rfl) hu, ru⟩
    refine ⟨liftS X.K W0 wb, hwb.nox, f0, _, mh, endD Q', ⟨r1, start_rel (ms := [.lam f c' (X.env.qual ++ "<lambda>") σ bs ms]) ⟨_, _, rfl, lamv, rfl⟩, ?_, fun v H' z => kk v H' (z.back (List.prefix_refl _) x1), ?_, ?_, ?_⟩, hsp mh Q' q⟩
    · rintro σ' H' ⟨f', mh', sm', p', x', r', s', q'⟩
      exact kk _ _ ⟨f', mh', .non, p', x1.trans x', r', rfl, q'⟩
    · rintro σ' H' ⟨f', mh', sm', p', x', r', s', q'⟩; exact q'.elim
    · rintro σ' H' ⟨f', mh', sm', p', x', r', s', q'⟩; exact q'.elim
    · rintro cls d σ' H' ⟨_, _, _, _, _, _, _, _, _, _, _, _, _, _, _, _, _, z⟩; exact z.elim
  refine wpAny_call (codeAny_mono rc fun r s2 hq => ?_)
  cases r with
  | error e => exact (show False from hq).elim
  | ok fl =>
    cases fl with
    | ret u => exact I1.after hq
    | next => exact False.elim hq
    | brk => exact False.elim hq
    | cont => exact False.elim hq
end
end Mn
end
section
set_option maxHeartbeats 1000000
namespace Mn
open PySem PySem.Spec PyProof.Rows L2
open Builtin Builtin.ObjectAttr

/-! ### exceptions of own classes whose __init__ calls a base's and stores one field -/
structure Fam (newId initId : String) (tail : List Value) : Prop where
  base : ∃ B, ExcBaseFacts B newId initId tail
  pass : ∀ self, refuseLoop self "__setattr__" tail = pure ()
  obj : tail.contains (.type "object") = true
  han : PySem.W.handedIn (.builtin initId) = true
abbrev vTail : List Value := [.type "ValueError", .type "Exception", .type "BaseException", .type "object"]
abbrev rTail : List Value := [.type "RuntimeError", .type "Exception", .type "BaseException", .type "object"]
theorem famV : Fam "ValueError.__new__" "ValueError.__init__" vTail := ⟨⟨_, PySem.F.excBase_ValueError⟩, PySem.F.store_ValueError.passes, by decide +kernel, by decide +kernel⟩
theorem famR : Fam "RuntimeError.__new__" "RuntimeError.__init__" rTail := ⟨⟨_, PySem.F.excBase_RuntimeError⟩, PySem.F.store_RuntimeError.passes, by decide +kernel, by decide +kernel⟩
/-- what the class must say -/
structure MkC (K : PySem.W.Frag) (C : Addr) (tail : List Value) (newId : String) : Prop where
  ini : PySem.W.excInitIn K C tail newId = true
  ovr : PySem.W.excOver K C tail = true
  hd : PySem.W.hasDictIn K C = true
  sa : PySem.W.findIn K (.ref C) "__setattr__" = some (some (.builtin "object.__setattr__"))
  exC : PySem.W.subIn K (.ref C) (.type "BaseException") = some true
  tyC : PySem.W.typeIn K (.ref C) = some (.type "type")
  kC : PySem.W.keepIn K (.ref C) = true
theorem MkC.cd {K : PySem.W.Frag} {C : Addr} {tail : List Value} {newId : String} (T : MkC K C tail newId) : ∃ cd, PySem.W.clsIn K C = some cd ∧ cd.hasDict = true ∧ PySem.W.excTail tail cd.mro = true := by
  obtain ⟨cd, hc, hd⟩ := PySem.W.any_some T.hd
  obtain ⟨cd', hc', h⟩ := PySem.W.any_some T.ovr
  rw [hc] at hc'
  cases hc'
  refine ⟨cd, hc, hd, ?_⟩
  split at h
  · rename_i C' bm e
    rw [e]
    exact (Bool.and_eq_true_iff.mp h).2
  · cases h
section
variable {prog : Program} {w : World} {A : Around} {E : Value → Shared → Prop} {R : Result → Shared → Prop} {hp : Heap} {g : Array GenState} {d : Drawn} {t : Nat} {os : OsState}
/-- e.name = v, the first field -/
theorem osa_first {K : PySem.W.Frag} {name : Str} {tk : Tok} {v : Value} {x C : Addr} {fv : Array Value} {cd : ClassData} {tail : List Value} {newId initId : String} (Fm : Fam newId initId tail)
    (X : K.In hp) (hx : hp.get? x = some { cls := .ref C, data := .fields fv }) (hcd : PySem.W.clsIn K C = some cd) (hm : PySem.W.excTail tail cd.mro = true) (hh : cd.hasDict = true) (ha : PySem.W.findIn K (.ref C) name = some none)
    (hq : ∀ h' tk' dx, (∀ b o, b ≠ x → hp.get? b = some o → h'.get? b = some o) → hp.objs.size ≤ dx → dx ≠ x → h'.get? x = some { cls := .ref C, dict := some dx, data := .fields fv } →
      h'.Ns1 dx (fun y => if y = name then some v else none) → R (.ok (.ret .none)) ⟨h', g, d, tk', os⟩) :
    codeAny (model prog w) A (.call (.builtin "object.__setattr__") ⟨[.ref x, .str name tk, v], []⟩) R ⟨hp, g, d, t, os⟩ := by
  have I : PySem.W.InstAt hp x { cls := .ref C, data := .fields fv } C none := ⟨hx, rfl, rfl, trivial⟩
  have SF := PySem.F.store_object
  have hob : cd.mro.contains (.type "object") = true := (PySem.W.excTail_contains "object" _ hm).trans Fm.obj
  have ne : cd.mro.isEmpty = false := by
    cases e : cd.mro with
    | nil => rw [e] at hob; cases hob
    | cons _ _ => rfl
  have hxs : x ≠ hp.objs.size := Nat.ne_of_lt (Heap.lt_size hx)
  have sub : PySem.W.Looks (model prog w) hp (isInstance (.ref x) (.type "object")) true := I.type.andThen (PySem.W.looks_mroIn X (by unfold PySem.W.mroIn; rw [hcd, Option.bind_some, if_neg (by rw [ne]; decide), hob]))
  have hmr : PySem.W.Looks (model prog w) hp (mroOf (.ref C)) cd.mro := (PySem.W.looks_clsIn X hcd).andThen .now
  have L3 : PySem.W.Looks (model prog w) hp (storeTaker? none) none := .now
  have hcls : PySem.W.Looks (model prog w) hp (classData C) cd := PySem.W.looks_clsIn X hcd
  refine codeAny_call_builtin SF.slot.plain SF.entry (@PySem.W.check_slot (model prog w) _ _ ⟨hp, g, d, t, os⟩ "object.__setattr__" "object" "__setattr__" (.ref x) [.str name tk, v] [] _ SF.kind SF.split sub (SF.args (.ref x) (.str name tk) v) ?_)
  rw [PySem.W.osa_eq, refuse_eq]
  refine wpAny_bind (wpAny_bind (I.type.at (wpAny_bind (hmr.at ?_))))
  rw [PySem.W.excTail_pass _ (Fm.pass _) _ hm]
  refine wpAny_pure (wpAny_bind (I.type.at (wpAny_bind ((PySem.W.looks_findIn X ha).at (wpAny_bind (L3.at ?_))))))
  show wpAny _ _ (storeInOwnDict (.ref x) (.ref C) (.str name tk) name v false) _ _ _
  obtain ⟨nm, bs, mro, ns, qn, hd, sn, sb, ab, col, del⟩ := cd
  dsimp only at hh
  subst hh
  unfold storeInOwnDict ownDictForStores
  repeat (first | with_reducible refine HandSPX.store_in_new ?_ ?_ | with_reducible refine wpAny_loadPart_at hx ?_ | with_reducible refine hcls.at ?_ | wp_step)
  · exact ⟨_, #[], _, (Heap.get?_update_ne _ _ _ _ hxs.symm).trans (Heap.get?_push_at rfl rfl), rfl, fun e he => absurd he (by simp), fun _ => rfl⟩
  · intro h' tk' hn' hs
    have hx₁ : (hp.push { cls := .type "dict", data := .dict #[] }).get? x = some { cls := .ref C, data := .fields fv } := Heap.get?_push_of_some _ hx
    refine hq h' tk' hp.objs.size (fun b o hb ho => ?_) (Nat.le_refl _) hxs.symm ?_ hn'
    · exact (hs.2 b (Nat.ne_of_lt (Heap.lt_size ho))).trans ((Heap.get?_update_ne _ _ _ _ hb).trans (Heap.get?_push_of_some _ ho))
    · exact (hs.2 x hxs).trans (Heap.get?_update_self _ hx₁ rfl)
end
section
variable {X : Cx} {pins : List (Addr × Obj)} {σ : L2.St} {H : Hp} {s : Shared} {a C : Addr} {f : Str} {y : V} {u : Value} {A : Around} {E : Value → Shared → Prop} {tail : List Value} {newId initId : String}
theorem ost_first {Q : Unit → Shared → Prop} (Fm : Fam newId initId tail) (T : MkC X.K C tail newId) (I : Inv X pins σ H s) (e : H a = some (exo a C none)) (hno : PySem.W.findIn X.K (.ref C) f = some none) (ry : RelV y u)
    (h : ∀ dx s', H dx = none → dx ≠ a → Inv X pins σ (upd (upd H dx (exd dx [(f, y)])) a (exo a C (some dx))) s' → Q () s') : wpAny (model X.prog X.w) A (setAttr (.ref a) f u) Q E s := by
  obtain ⟨cd, hcl, hhd, htl⟩ := T.cd
  obtain ⟨t1, ho⟩ := exo_at I.hok e
  obtain ⟨hp, g, d, t, os⟩ := s
  refine PySem.W.set_plain I.kIn (ox := { cls := .ref C, dict := none, data := .fields #[.ref t1, .none, .none, .none, .bool false, .none] }) (od := none) ⟨ho, rfl, rfl, trivial⟩ T.sa (osa_first Fm I.kIn ho hcl htl hhd hno fun h' tk' dx k dn dne hx hn => ?_)
  have hnd : H dx = none := I.hok.fresh dn
  have nd : ∀ {b : Addr} {o : Obj}, hp.get? b = some o → b ≠ dx := fun {b o} q => Nat.ne_of_lt (Nat.lt_of_lt_of_le (Heap.lt_size q) dn)
  have na : ∀ {b : Addr}, H b = none → b ≠ a := fun {b} n z => by rw [z, e] at n; cases n
  have other : ∀ {b : Addr} {o : HO}, H b = some o → o ≠ exo a C none → upd (upd H dx (exd dx [(f, y)])) a (exo a C (some dx)) b = some o := fun {b o} q ne => by
    rw [upd_ne (fun z => ne (Option.some.inj ((q.symm.trans (by rw [z]; exact e))))), upd_ne (ne_of_none q hnd)]; exact q
  refine h dx _ hnd dne (I.un (t' := tk') ⟨fun b o q n _ _ => k b o (na n) q, fun b o q n _ _ => ⟨o.slots, k b o (na n) q⟩, fun b o q n _ => by rw [upd_ne (na n), upd_ne (nd q)]; exact n, fun b o q _ => ?_,
    fun b xs q => other q (Ne.symm exo_tup), fun b o v q => other q (Ne.symm exo_frz), fun b ps q => ⟨#[], by rw [other q (Ne.symm exo_tbl)]; simp⟩⟩ fun b o q => ?_)
  · by_cases hb : b = a
    · exact ⟨_, by rw [hb]; exact hx⟩
    · exact ⟨o, k b o hb q⟩
  · by_cases hb : b = a
    · subst hb
      rw [upd_same] at q
      cases q
      exact exo_ok hx
    · rw [upd_ne hb] at q
      by_cases hd : b = dx
      · subst hd
        rw [upd_same] at q
        cases q
        exact exd_ok hn (relO_put (fs := []) ry fun g => True.intro)
      · rw [upd_ne hd] at q
        refine (I.hok b o q).stay (fun c v hc z => k c v ?_ z) (fun c hc => other hc (Ne.symm exo_own)) fun c xs hc => other hc (Ne.symm exo_tup)
        rcases hc with rfl | hc
        · exact hb
        · exact at_ne e hc exo_own
/-- what the base's name must say -/
structure BaseC (K : PySem.W.Frag) (B : Addr) (initId : String) : Prop where
  rd : PySem.W.readsIn K B (.type "type") = true
  ga : PySem.W.specialIn K (.ref B) "__getattribute__" = some (some (.builtin "type.__getattribute__"))
  at_ : PySem.W.findCls K (.ref B) (.type "type") "__init__" = some (.val (.builtin initId))
/-- B.__init__(self, 'text') -/
theorem pe_binit {x m : Str} {B : Addr} {i j : Nat} {p1 p2 p3 p4 pos : Pos} {pl : Sem Bool} {self : Str} (Fm : Fam newId initId tail) (T : MkC X.K C tail newId) (hB : BaseC X.K B initId) (hg : Gl X x) (hm : X.mg x = some (.ref B)) (hN : X.N[i]? = some self) (hv : Vis X.env.scope self)
    (hc : eval (.Call (.Attribute (.Name x p1) "__init__" p2) [.Name self p3, .Constant (.str m) j p4] [] pos) X.env = (do
      let ov ← eval (.Name x p1) X.env
      standAt p2.atName
      let (f, first) ← holding [ov] (getMethod ov "__init__" pl)
      callWith pos f first (backTo pos (starEach [.Name self p3, .Constant (.str m) j p4] X.env)) (backToKw pos (keywordEach [] X.env))) := by rfl)
    (hdb : (x == ("__debug__" : Str)) = false := by decide) (hd : (self == ("__debug__" : Str)) = false := by decide) (hcd : (self == ("__classdict__" : Str)) = false := by decide) :
    PE X (.Call (.Attribute (.Name x p1) "__init__" p2) [.Name self p3, .Constant (.str m) j p4] [] pos) (fun σ H Q => ∃ a, σ[i]? = some (some (.ref a)) ∧ H a = some (exo a C none) ∧ Q .non H) := by
  refine ⟨fun pins s σ H Q I ⟨a, hs, ea, q⟩ => ?_⟩
  refine PySem.W.methodCall_KW (ld_glob I hg hm ?_ hdb) hc
  refine PySem.W.method_cls I.kIn hB.ga (PySem.W.cls_value I.kIn hB.rd hB.at_ Fm.han ?_)
  refine PyProof.Rows.callWith_method1 (thn ((pa_cons (pe_var hN hv hd hcd) (pa_cons pe_str pa_nil)).run pos pins _ σ H (fun vs H1 => vs = [.ref a, .str m] ∧ H1 = H) (I.tok _) ⟨.ref a, hs, rfl, rfl⟩) fun us s1 ⟨vs, H1, I1, r1, e1, e2⟩ => ?_)
  subst e1 e2
  obtain ⟨u1, u2, rfl, r1, r2⟩ := r1.two
  obtain rfl : u1 = Value.ref a := r1
  obtain ⟨B', FB⟩ := Fm.base
  obtain ⟨t1, ho⟩ := exo_at I1.hok ea
  obtain ⟨nm, N', qn, bs, bm, hdct, sn, sub, ab, col, dd, k0, k1, k2, k3, k5, hC, hT⟩ := PySem.W.excInit_of I1.kIn T.ini
  obtain ⟨hp, g, d, t, os⟩ := s1
  refine wpAny_call (HandSPX.init_base FB hT hC ho (by rw [sizeLine_eq]; show 1 ≤ 16777216; decide) fun h' t2 k hx => ?_)
  have J := I1.write (t' := t) (x := a) (e := a) (o := exo a C none) (by rw [ea]; exact True.intro) (.inl rfl) k ⟨_, hx⟩ (exo_ok hx)
  have eu : upd H1 a (exo a C none) = H1 := by
    funext b
    by_cases hb : b = a
    · rw [hb, upd_same, ea]
    · rw [upd_ne hb]
  rw [eu] at J
  exact ⟨.non, H1, J, rfl, q⟩
/-- self.f = e -/
theorem ps_ostF {i j : Nat} {self val : Str} {p p1 p2 pos : Pos} (Fm : Fam newId initId tail) (T : MkC X.K C tail newId) (hno : PySem.W.findIn X.K (.ref C) f = some none) (hN : X.N[i]? = some self) (hv : Vis X.env.scope self) (hN2 : X.N[j]? = some val) (hv2 : Vis X.env.scope val)
    (hs : swapsWith (.Name val p2) (some (.Attribute (.Name self p1) f p)) pos.line X.env = pure false := by rfl) (hd : (self == ("__debug__" : Str)) = false := by decide) (hcd : (self == ("__classdict__" : Str)) = false := by decide) (hd2 : (val == ("__debug__" : Str)) = false := by decide) (hcd2 : (val == ("__classdict__" : Str)) = false := by decide) :
    PS X (.Assign [.Attribute (.Name self p1) f p] (.Name val p2) pos) (fun D σ H => ∃ a y, σ[i]? = some (some (.ref a)) ∧ σ[j]? = some (some y) ∧ H a = some (exo a C none) ∧ ∀ dx, H dx = none → dx ≠ a → D.nx σ (upd (upd H dx (exd dx [(f, y)])) a (exo a C (some dx)))) := by
  refine ⟨fun pins s σ H D I ⟨a, y, h1, h2, ea, q⟩ => ?_⟩
  refine plainObj_wpAny_Assign_Attribute (thn ((pe_var hN2 hv2 hd2 hcd2).run pins s σ H (fun v H1 => v = y ∧ H1 = H) I ⟨y, h2, rfl, rfl⟩) fun v s1 ⟨x, H1, I1, r1, e1, e2⟩ => ?_) hs
  subst e1 e2
  refine thn ((pe_var hN hv hd hcd).run pins s1 σ H1 (fun v H2 => v = .ref a ∧ H2 = H1) I1 ⟨.ref a, h1, rfl, rfl⟩) fun w s2 ⟨x2, H2, I2, r2, e1, e2⟩ => ?_
  subst e1
  rw [e2] at I2
  obtain rfl : w = Value.ref a := r2
  exact ost_first Fm T I2 ea hno r1 fun dx s' n ne J => ⟨σ, _, J, q dx n ne⟩
end
/-! ### the __init__, the making, the raise -/
def spI (C : Addr) (fld : Str) : Sp := fun vs H Q _ => ∃ a y, vs = [.ref a, y] ∧ H a = some (exo a C none) ∧ ∀ dx, H dx = none → dx ≠ a → Q .non (upd (upd H dx (exd dx [(fld, y)])) a (exo a C (some dx)))
section
variable {P : Program} {w : World} {K : PySem.W.Frag} {mg : Str → Option Value} {base : Heap} {C B fI : Addr} {tail : List Value} {newId initId : String}
theorem init_ok {k j : Nat} {pl : Env → Sem Bool} {name qual self val x m fld : Str} {params : Arguments} {body : List Stmt} {scope : Scope} {dvs : List V} {kws : List (Str × V)} {fd : FuncData} {p1 p2 p3 p4 p5 p6 p7 p8 p9 p10 : Pos} (Fm : Fam newId initId tail) (T : MkC K C tail newId) (hB : BaseC K B initId)
    (F : FunD K name qual params body scope dvs kws fI fd) (S : FnScope [self, val] [self, val] scope) (hg : scope.names.lookup x = some .globalImplicit) (hm : mg x = some (.ref B)) (hno : PySem.W.findIn K (.ref C) fld = some none) (hv1 : Vis scope self) (hv2 : Vis scope val)
    (hb : body = [.Expr (.Call (.Attribute (.Name x p1) "__init__" p2) [.Name self p3, .Constant (.str m) j p4] [] p5) p6, .Assign [.Attribute (.Name self p7) fld p8] (.Name val p9) p10])
    (hc : ∀ env : Env, eval (.Call (.Attribute (.Name x p1) "__init__" p2) [.Name self p3, .Constant (.str m) j p4] [] p5) env = (do
      let ov ← eval (.Name x p1) env
      standAt p2.atName
      let (f, first) ← holding [ov] (getMethod ov "__init__" (pl env))
      callWith p5 f first (backTo p5 (starEach [.Name self p3, .Constant (.str m) j p4] env)) (backToKw p5 (keywordEach [] env))) := by intro _; rfl)
    (hs1 : ∀ env : Env, swapsWith (.Call (.Attribute (.Name x p1) "__init__" p2) [.Name self p3, .Constant (.str m) j p4] [] p5) none p6.line env = pure false := by intro _; rfl)
    (hs2 : ∀ env : Env, swapsWith (.Name val p9) (some (.Attribute (.Name self p7) fld p8)) p10.line env = pure false := by intro _; rfl)
    (hdb : (x == ("__debug__" : Str)) = false := by decide) (hd : (self == ("__debug__" : Str)) = false := by decide) (hcd : (self == ("__classdict__" : Str)) = false := by decide) (hd2 : (val == ("__debug__" : Str)) = false := by decide) (hcd2 : (val == ("__classdict__" : Str)) = false := by decide)  :
    FnOk P w K mg base (L2.CX P w) (k + 1) fI fd [self, val] (spI C fld) := by
  subst hb
  refine F.ok S (fun vs H Q E ⟨a, y, e, _⟩ => by rw [e]; rfl) fun cdv A outer s H vs Q E hr h => ?_
  obtain ⟨a, y, rfl, ea, q⟩ := h
  refine ⟨_, PSs.nox (pss_cons (ps_expr (pe_binit (X := (cxOf (L2.CX P w) P w K mg base [self, val] qual scope fI cdv A outer s H E).nox) (i := 0) (B := B) Fm T hB hg hm rfl hv1 (hc _) (hdb := hdb) (hd := hd) (hcd := hcd)) (hs1 _))
    (pss_one (ps_ostF (i := 0) (j := 1) Fm T hno rfl hv1 rfl hv2 (hs2 _) (hd := hd) (hcd := hcd) (hd2 := hd2) (hcd2 := hcd2)))), a, rfl, ea, a, y, rfl, rfl, ea, q⟩
end
section
variable {X : Cx} {C fI : Addr} {tail : List Value} {newId initId : String} {pins : List (Addr × Obj)} {σ : L2.St}
theorem mk_run {k : Nat} {fd : FuncData} {ps : List Str} {fld : Str} {ds : List Value} {dvs vs : List V} {us : List Value} {y : V} {H1 : Hp} {Q : XK} {s1 : Shared} (Fm : Fam newId initId tail) (T : MkC X.K C tail newId) (iC : PySem.W.findIn X.K (.ref C) "__init__" = some (some (.ref fI))) (tI : PySem.W.typeIn X.K (.ref fI) = some (.type "function"))
    (F1 : FnOk X.prog X.w X.K X.mg X.base (L2.CX X.prog X.w) k fI fd ps (spI C fld)) (hr : Room (k + 1) X.A) (hb : L2.Binds X.K fd ps ds) (hd : Vals dvs ds) (I1 : Inv X pins σ H1 s1) (r1 : Vals vs us) (hz : vs.length ≤ 1000) (hy : vs ++ dvs = [y])
    (q1 : ∀ d, H1 d = none → Q (.ref C) (some d) (upd H1 d (.xd [(fld, y)]))) : wpAny (model X.prog X.w) X.A (call (.ref C) us) (MkP X pins σ Q) X.xe s1 := by
  obtain ⟨B, FB⟩ := Fm.base
  obtain ⟨nm, N', qn, bs, bm, hdct, sn, sub, ab, col, dd, k0, k1, k2, k3, k5, hC, hT⟩ := PySem.W.excInit_of I1.kIn T.ini
  obtain ⟨hp, g, dr, tk, os⟩ := s1
  have hsz : hp.objs.size ≤ hp.objs.size + 1 := Nat.le_succ _
  have hn : H1 (hp.objs.size + 1) = none := I1.hok.fresh hsz
  have kk : ∀ b o, hp.get? b = some o → ((hp.push (PySem.W.kdv_tup us)).push (HandSPX.excO C hp.objs.size)).get? b = some o := fun b o e => Heap.get?_push_of_some _ (Heap.get?_push_of_some _ e)
  have hget : ((hp.push (PySem.W.kdv_tup us)).push (HandSPX.excO C hp.objs.size)).get? (hp.objs.size + 1) = some (HandSPX.excO C hp.objs.size) := by heap_get
  have I2 : Inv X pins σ (upd H1 (hp.objs.size + 1) (exo (hp.objs.size + 1) C none)) ⟨(hp.push (PySem.W.kdv_tup us)).push (HandSPX.excO C hp.objs.size), g, dr, tk, os⟩ :=
    I1.laid (t' := tk) (a := hp.objs.size + 1) (o := exo (hp.objs.size + 1) C none) (h' := (hp.push (PySem.W.kdv_tup us)).push (HandSPX.excO C hp.objs.size)) kk hsz (exo_ok hget)
  have r2 : Vals (V.ref (hp.objs.size + 1) :: (vs ++ dvs)) (Value.ref (hp.objs.size + 1) :: (us ++ ds)) := .cons rfl (r1.append hd)
  have hq : spI C fld (V.ref (hp.objs.size + 1) :: (vs ++ dvs)) (upd H1 (hp.objs.size + 1) (exo (hp.objs.size + 1) C none))
      (fun v H2 => v = .non ∧ ∃ d fs, H2 (hp.objs.size + 1) = some (exo (hp.objs.size + 1) C (some d)) ∧ H2 d = some (exd d fs) ∧ H1 d = none ∧ Q (.ref C) (some d) (upd (del H2 (hp.objs.size + 1)) d (.xd fs))) (fun _ _ _ => False) := by
    refine ⟨_, y, by rw [hy], upd_same, fun dx hdx hne => ⟨rfl, dx, [(fld, y)], upd_same, by rw [upd_ne hne, upd_same], by rw [upd_ne hne] at hdx; exact hdx, ?_⟩⟩
    rw [upd_ne hne] at hdx
    have e : upd (del (upd (upd (upd H1 (hp.objs.size + 1) (exo (hp.objs.size + 1) C none)) dx (exd dx [(fld, y)])) (hp.objs.size + 1) (exo (hp.objs.size + 1) C (some dx))) (hp.objs.size + 1)) dx (.xd [(fld, y)]) = upd H1 dx (.xd [(fld, y)]) := by
      funext b
      by_cases hb : b = dx
      · rw [hb, upd_same, upd_same]
      · rw [upd_ne hb, upd_ne hb]
        by_cases ha : b = hp.objs.size + 1
        · rw [ha, del_same, hn]
        · rw [del_ne ha, upd_ne ha, upd_ne hb, upd_ne ha]
    rw [e]
    exact q1 dx hdx
  have hl : (Value.ref (hp.objs.size + 1) :: us ++ ds).length = ps.length := by
    have e := r2.length
    rw [F1.len _ _ _ _ hq] at e
    exact e.symm
  have hus : us.length ≤ sizeLine := by rw [← Paired.length r1, sizeLine_eq]; omega
  refine wpAny_call (HandSPX.call_own FB hT hC (PySem.W.looks_findIn I1.kIn iC) (fun self => PySem.W.bind_fn I1.kIn self tI) hus
    (codeAny_mono (F1.run _ X.stack _ _ ⟨Value.ref (hp.objs.size + 1) :: us, []⟩ (Value.ref (hp.objs.size + 1) :: (us ++ ds)) _ _ (fun _ _ _ => False) (hr.make C us []) (I2.env0.make C us []) (hb _ (Value.ref (hp.objs.size + 1) :: us) I2.kIn hl) r2 hq) fun r s' hq' => ?_))
  cases r with
  | error er =>
    obtain ⟨_, _, _, _, _, _, _, _, _, _, _, _, z⟩ := hq'
    exact z.elim
  | ok fl =>
    cases fl with
    | ret u =>
      obtain ⟨v, H2, os2, bare2, un2, hok2, rv, ev, d, fs, ea, ed, hd1, q2⟩ := hq'
      subst ev
      obtain ⟨h2, g2, d2, t2, os'⟩ := s'
      exact ⟨rv, mk_end (raises_own T.exC T.tyC) I1 hsz kk un2 hok2 os2 bare2 ea ed hd1 q2⟩
    | next => exact False.elim hq'
    | brk => exact False.elim hq'
    | cont => exact False.elim hq'
/-- how an own exception is made: class x, one field, the default's values dM -/
structure ExMk (P : Program) (w : World) (K : PySem.W.Frag) (mg : Str → Option Value) (base : Heap) (k : Nat) (x fld : Str) (dM : List M) : Prop where
  ex : ∃ (newId initId : String) (tail : List Value) (fI : Addr) (fd : FuncData) (ps : List Str) (ds : List Value) (dvs : List V), Fam newId initId tail ∧ MkC K (He.ga K x) tail newId ∧ PySem.W.findIn K (.ref (He.ga K x)) "__init__" = some (some (.ref fI)) ∧ PySem.W.typeIn K (.ref fI) = some (.type "function") ∧
    FnOk P w K mg base (L2.CX P w) k fI fd ps (spI (He.ga K x) fld) ∧ L2.Binds K fd ps ds ∧ Vals dvs ds ∧ ∀ (f : List Addr) (H : Hp), RVs K f H dM dvs
  gl : mg x = some (.ref (He.ga K x))
def wRaise (x fld : Str) (dM : List M) (wa : MTA) : MTS := fun D sm h => wa sm h (fun ms h1 => ∃ m, ms ++ dM = [m] ∧ D.xc (.exc x [fld] [m]) sm h1) (fun e h1 => D.xc e sm h1)
variable {W : WX} {k j : Nat} {x fld : Str} {dM : List M} {p pos pos' : Pos}
theorem s_raise {e : Expr} {es : List Expr} {wa : MTA} (c : CM X W k) (R : ExMk X.prog X.w X.K X.mg X.base j x fld dM) (hj : j + 1 ≤ k) (hg : Gl X x) (ha : AOk X W (e :: es) wa) (hdb : (x == ("__debug__" : Str)) = false := by decide)
    (he : starEach (e :: es) X.env = (false, eval e X.env) :: starEach es X.env := by rfl) (hpl : (backTo pos (starEach es X.env)).any (·.1) = false := by rfl) :
    SOk X W (.Raise (some (.Call (.Name x p) (e :: es) [] pos)) none pos') (wRaise x fld dM wa) := by
  obtain ⟨newId, initId, tail, fI, fd, ps, ds, dvs, Fm, T, iC, tI, F1, hb, hd, rd⟩ := R.ex
  have mk : PMk X (.Call (.Name x p) (e :: es) [] pos) (fun σ H Q => liftA X.K W wa σ H fun vs H1 => vs.length ≤ 1000 ∧ ∃ y, vs ++ dvs = [y] ∧ ∀ d, H1 d = none → Q (.ref (He.ga X.K x)) (some d) (upd H1 d (.xd [(fld, y)]))) := by
    intro pins s σ H Q I h
    refine wpAny_Call_Name_kw (ld_glob I hg R.gl ?_ hdb)
    refine PySem.W.callWith_K (h₀ := X.base) I.ok.mod.kin T.kC (thn (ha.run pos pins s σ H _ I h) fun us s1 ⟨vs, H1, I1, r1, hz, y, hy, q1⟩ => ⟨I1.kIn, ?_⟩) he hpl
    exact mk_run Fm T iC tI F1 (c.rm.r.mono hj) hb hd I1 r1 hz hy q1
  refine PS.mono (ps_raise c.calm c.tk mk) fun D σ H ⟨f, sm, mh, D', a, q⟩ => a.at.goA q fun f1 mh1 H1 ms vs p1 x1 a1 r1 ⟨m, hm, q1⟩ => ?_
  have rr := r1.append (rd f1 H1)
  rw [hm] at rr
  obtain ⟨y, hy, ry⟩ := rr.one
  refine ⟨?_, y, hy, fun d hd => ?_⟩
  · have := congrArg List.length hy
    simp at this
    omega
  · have x2 : Ext H1 (upd H1 d (.xd [(fld, y)])) := Ext.new hd
    exact a1.e _ _ _ ⟨f1, mh1, x, [fld], [m], [y], d, List.prefix_refl _, x2, a1.h.new hd, rfl, rfl, upd_same, rfl, ⟨y, [], rfl, ry.mono (List.prefix_refl _) x2, rfl⟩, q1⟩
theorem s_raise0 (c : CM X W k) (R : ExMk X.prog X.w X.K X.mg X.base j x fld dM) (hj : j + 1 ≤ k) (hg : Gl X x) (hdb : (x == ("__debug__" : Str)) = false := by decide) :
    SOk X W (.Raise (some (.Call (.Name x p) [] [] pos)) none pos') (wRaise x fld dM wNil) := by
  obtain ⟨newId, initId, tail, fI, fd, ps, ds, dvs, Fm, T, iC, tI, F1, hb, hd, rd⟩ := R.ex
  have mk : PMk X (.Call (.Name x p) [] [] pos) (fun σ H1 Q => ∃ y, dvs = [y] ∧ ∀ d, H1 d = none → Q (.ref (He.ga X.K x)) (some d) (upd H1 d (.xd [(fld, y)]))) := by
    intro pins s σ H Q I ⟨y, hy, q1⟩
    refine wpAny_Call_Name_kw (ld_glob I hg R.gl ?_ hdb)
    refine PySem.W.callWith_K0 I.kIn T.kC ?_
    exact mk_run (vs := []) (us := []) Fm T iC tI F1 (c.rm.r.mono hj) hb hd I .nil (Nat.zero_le _) hy q1
  refine PS.mono (ps_raise c.calm c.tk mk) fun D σ H ⟨f, sm, mh, D', a, m, hm, q1⟩ => ?_
  have rr := rd f H
  have hm' : dM = [m] := hm
  rw [hm'] at rr
  obtain ⟨y, hy, ry⟩ := rr.one
  refine ⟨y, hy, fun d hd => ?_⟩
  have x2 : Ext H (upd H d (.xd [(fld, y)])) := Ext.new hd
  exact a.at.e _ _ _ ⟨f, mh, x, [fld], [m], [y], d, List.prefix_refl _, x2, a.h.new hd, rfl, rfl, upd_same, rfl, ⟨y, [], rfl, ry.mono (List.prefix_refl _) x2, rfl⟩, q1⟩
end
end Mn
end
section
set_option maxHeartbeats 1000000
namespace Mn
open PySem PySem.Spec PyProof.Rows L2
open LamX (TabB)

/-! ### the end of a law -/
/-- the small heap at the beginning: the script, the tables -/
def mh0 (ns : List Int) (ts : List (Addr × Str)) : MH := .rol (ns.map M.int) :: ts.map fun p => .tab p.1 p.2
def scrO (vs : List Value) : Obj := { cls := .type "list", data := .seq vs.toArray }
def tabO : Obj := { cls := .none, data := .fields #[] }
/-- the layer's heap at the beginning -/
def hp0 (a : Addr) (vs : List Value) (ns : List Int) (tb : List Addr) : Hp := fun b => if b = a then some (.frz (scrO vs) (.lst (ns.map V.int))) else if b ∈ tb then some (.tbl #[]) else none
def noLst (K : PySem.W.Frag) : Bool := K.all fun p => p.2.cls != .type "list"
section
variable {a : Addr} {vs : List Value} {ns : List Int} {tb : List Addr} {b : Addr}
theorem hp0_scr : hp0 a vs ns tb a = some (.frz (scrO vs) (.lst (ns.map V.int))) := if_pos rfl
theorem hp0_tab (h : b ∈ tb) (n : b ≠ a) : hp0 a vs ns tb b = some (.tbl #[]) := (if_neg n).trans (if_pos h)
theorem hp0_none (h : b ∉ tb) (n : b ≠ a) : hp0 a vs ns tb b = none := (if_neg n).trans (if_neg h)
theorem hp0_cases {u : HO} (e : hp0 a vs ns tb b = some u) : (b = a ∧ u = .frz (scrO vs) (.lst (ns.map V.int))) ∨ (b ∈ tb ∧ b ≠ a ∧ u = .tbl #[]) := by
  by_cases hb : b = a
  · subst hb
    rw [hp0_scr] at e
    exact .inl ⟨rfl, (Option.some.inj e).symm⟩
  · by_cases ht : b ∈ tb
    · rw [hp0_tab ht hb] at e
      exact .inr ⟨ht, hb, (Option.some.inj e).symm⟩
    · rw [hp0_none ht hb] at e
      cases e
theorem rh0 {K : PySem.W.Frag} {ts : List (Addr × Str)} (ha : a ∉ ts.map (·.1)) (hn : (ts.map (·.1)).Nodup) : RH K (a :: ts.map (·.1)) (mh0 ns ts) (hp0 a vs ns (ts.map (·.1))) where
  len := by simp [mh0]
  nd := List.nodup_cons.mpr ⟨ha, hn⟩
  ob := fun n o ad h1 h2 => by
    cases n with
    | zero =>
      have e1 : O.rol (ns.map M.int) = o := by simpa [mh0] using h1
      have e2 : a = ad := by simpa using h2
      subst e1 e2
      exact ⟨_, _, hp0_scr, RVs.of_ints ns⟩
    | succ n =>
      have h1 : (ts.map fun p => O.tab p.1 p.2)[n]? = some o := by simpa [mh0] using h1
      have h2 : (ts.map (·.1))[n]? = some ad := by simpa using h2
      rw [List.getElem?_map] at h1 h2
      obtain ⟨p, hp, rfl⟩ := Option.map_eq_some_iff.mp h1
      rw [hp] at h2
      have e2 : p.1 = ad := by simpa using h2
      subst e2
      have hm : p.1 ∈ ts.map (·.1) := List.mem_map.mpr ⟨p, List.mem_of_getElem? hp, rfl⟩
      exact ⟨rfl, .nil (hp0_tab hm fun z => ha (z ▸ hm))⟩
end
theorem law_endM {P : Program} {w : World} {K : PySem.W.Frag} {mg mb : Str → Option Value} {k : Nat} {fa a : Addr} {cs : List (Addr × Addr × Str)} {fd : FuncData} {x : Str} {sp : MSp} {s₁ : Shared} {vs : List Value} {ns : List Int}
    (KX : K.In s₁.heap) (hns : s₁.heap.Ns mainGlobals mg) (hb : s₁.heap.Ns builtinsNs mb) (hbb : ∀ x : Str, x ≠ "__name__" → mb x = bootBuiltins x) (hlim : s₁.heap.NoLimit) (hg : s₁.gens = #[]) (hK : noLst K = true)
    (hT : ∀ p ∈ cs, s₁.heap.get? p.2.1 = some tabO) (nT : ∀ p ∈ cs, K.lookup p.2.1 = none) (C : ∀ p ∈ cs, PySem.W.CodeHd s₁.heap p.1 p.2.1) (hnd : (cs.map (·.2.1)).Nodup)
    (hbm : ∃ (bm : Addr) (ob : Obj), mg "__builtins__" = some (.ref bm) ∧ bm ≠ builtinsNs ∧ s₁.heap.get? bm = some ob ∧ ob.cls = .type "module" ∧ ob.dict = some builtinsNs ∧ ob.data = .plain)
    (ha : s₁.heap.get? a = some (scrO vs)) (hi : IntsAre vs ns) (hl : ns.length ≤ sizeLine) (hr : RoomG k callerA)
    (F : ∀ base : Heap, K.In base → base.Ns mainGlobals mg → (∀ p ∈ cs, TabB base mg p.1 p.2.1) → FnM P w K mg base k fa fd [x] sp) (hbind : ∀ (s : Shared) (u : Value), BindsTo s fd ⟨[u], []⟩ [(x, u)])
    (hsp : sp [.ref 0] (mh0 ns (cs.map (·.2))) (fun m _ => m = .bl true) fun _ _ => False) :
    codeAny (model P w) callerA (.call (.ref fa) ⟨[.ref a], []⟩) (fun r s' => r = .ok (.ret (.bool true)) ∧ OldK s₁.heap s'.heap ∧ s'.os = s₁.os ∧ AllBare s'.gens) s₁ := by
  have rv := vals_ints hi
  have atT : ∀ {b : Addr}, b ∈ (cs.map (·.2)).map (·.1) → ∃ p ∈ cs, p.2.1 = b := fun {b} hb => by
    obtain ⟨q, hq, e⟩ := List.mem_map.mp hb
    obtain ⟨p, hp, e2⟩ := List.mem_map.mp hq
    exact ⟨p, hp, by rw [e2]; exact e⟩
  have memT : ∀ p ∈ cs, p.2.1 ∈ (cs.map (·.2)).map (·.1) := fun p hp => List.mem_map.mpr ⟨p.2, List.mem_map.mpr ⟨p, hp, rfl⟩, rfl⟩
  have aT : a ∉ (cs.map (·.2)).map (·.1) := fun z => by
    obtain ⟨p, hp, e⟩ := atT z
    have q := hT p hp
    rw [e, ha] at q
    cases congrArg Obj.cls (Option.some.inj q)
  have neA : ∀ p ∈ cs, p.2.1 ≠ a := fun p hp z => aT (z ▸ memT p hp)
  generalize hH : hp0 a vs ns ((cs.map (·.2)).map (·.1)) = H
  have free : ∀ {b : Addr} {o : Obj}, s₁.heap.get? b = some o → o ≠ scrO vs → o ≠ tabO → H b = none := fun {b o} e n1 n2 => by
    subst hH
    refine hp0_none (fun z => ?_) fun z => ?_
    · obtain ⟨p, hp, rfl⟩ := atT z
      exact n2 (Option.some.inj (e.symm.trans (hT p hp)))
    · subst z
      exact n1 (Option.some.inj (e.symm.trans ha))
  have stays : ∀ {b : Addr} {o : Obj}, s₁.heap.get? b = some o → o ≠ scrO vs → o ≠ tabO → (hidT s₁.heap H).get? b = some o := fun e n1 n2 => hidT_get e (free e n1 n2)
  have kA : K.lookup a = none := by
    cases q : K.lookup a with
    | none => rfl
    | some o =>
      have e := KX a o q
      rw [ha] at e
      have z := List.all_eq_true.mp hK _ (He.lookup_mem q)
      rw [← Option.some.inj e] at z
      exact absurd z (by simp [scrO])
  have KB : K.In (hidT s₁.heap H) := fun b o e => by
    refine hidT_get (KX b o e) ?_
    subst hH
    refine hp0_none (fun z => ?_) fun z => ?_
    · obtain ⟨p, hp, rfl⟩ := atT z
      rw [nT p hp] at e; cases e
    · subst z
      rw [kA] at e; cases e
  have dicts : ∀ {b : Addr} {m : Str → Option Value}, s₁.heap.Ns b m → (hidT s₁.heap H).Ns b m := fun {b m} ⟨o, es, ep, e, d, r⟩ =>
    ⟨o, es, ep, stays e (fun z => by rw [z] at d; cases d) (fun z => by rw [z] at d; cases d), d, r⟩
  have md : L2.Mod K mg (hidT s₁.heap H) := ⟨KB, dicts hns, ⟨mb, dicts hb, hbb⟩, let ⟨mc, h1, h2⟩ := hlim; ⟨mc, dicts h1, h2⟩⟩
  have TB : ∀ p ∈ cs, TabB (hidT s₁.heap H) mg p.1 p.2.1 := fun p hp => by
    refine ⟨?_, ?_, fun z => ?_⟩
    · obtain ⟨o, us, file, tf, flags, tg, inF, text, tt, e1, r1, r2, r3, rest⟩ := C p hp
      refine ⟨o, us, file, tf, flags, tg, inF, text, tt, stays e1 (fun z => ?_) (fun z => ?_), r1, r2, r3, rest⟩
      · rw [z] at r2; cases r2
      · rw [z] at r2; cases r2; simp at r3
    · obtain ⟨bm, ob, b1, b2, b3, b4, b5, b6⟩ := hbm
      refine ⟨bm, ob, b1, b2, fun q => ?_, fun q => ?_, stays b3 (fun z => ?_) (fun z => ?_), b4, b5, b6⟩
      · obtain ⟨o, es, ep, e, hd, _⟩ := hns
        rw [q, e] at b3
        cases b3
        rw [hd] at b6; cases b6
      · rw [q, hT p hp] at b3
        cases b3
        cases b6
      · rw [z] at b6; cases b6
      · rw [z] at b6; cases b6
    · obtain ⟨o, es, ep, e, hd, _⟩ := hns
      rw [z, hT p hp] at e
      cases e
      cases hd
  have hok : HOk P w H s₁.heap := fun b u e => by
    subst hH
    rcases hp0_cases e with ⟨rfl, rfl⟩ | ⟨hb, _, rfl⟩
    · exact ⟨ha, by rw [List.length_map]; exact hl, vs, _, rv, ha⟩
    · obtain ⟨p, hp, rfl⟩ := atT hb
      exact hT p hp
  have e0 : Env0 P w K mg (hidT s₁.heap H) callerA [] s₁ H := ⟨rfl, md, fun b o e => of_hidT e, Nat.le_of_eq (hidT_size _ _), trivial, fun b hb => absurd (show b ∈ ([] : List Addr) from hb) (by simp), hok, .of_eq hg⟩
  have rh : RH K (a :: (cs.map (·.2)).map (·.1)) (mh0 ns (cs.map (·.2))) H := by
    subst hH
    exact rh0 aT (by rw [List.map_map]; exact hnd)
  refine codeAny_mono ((F _ KB (dicts hns) TB).run callerA [] s₁ H ⟨[.ref a], []⟩ [.ref a] [.ref a] (fun v _ => v = .bl true) (fun _ _ _ => False) hr e0 (hbind s₁ (.ref a)) (.cons rfl .nil)
    ⟨_, _, [.ref 0], _, _, rh, ⟨.ref a, [], rfl, ⟨a, rfl, rfl⟩, rfl⟩, hsp, ?_, ?_⟩) fun r s' h => ?_
  · rintro v H' ⟨f', mh', m, _, _, _, rm, q⟩
    subst q
    exact rm
  · rintro cls d H' ⟨_, _, _, _, _, _, _, _, _, _, _, _, _, _, _, z⟩
    exact z.elim
  cases r with
  | error e =>
    obtain ⟨_, _, _, _, _, _, _, _, _, _, _, _, z⟩ := h
    exact z.elim
  | ok fl =>
    cases fl with
    | next => exact False.elim h
    | brk => exact False.elim h
    | cont => exact False.elim h
    | ret u =>
      obtain ⟨v, H', os, bare, un, hok', r', q⟩ := h
      have q' : v = .bl true := q
      subst q'
      obtain rfl : u = Value.bool true := r'
      have kept : ∀ b o, (∀ p ∈ cs, p.2.1 ≠ b) → s₁.heap.get? b = some o → s'.heap.get? b = some o := fun b o nb e => by
        cases q : H b with
        | none => exact un.keep b o e q (fun z => absurd (show b ∈ ([] : List Addr) from z) (by simp)) (by simp)
        | some u =>
          rw [← hH] at q
          rcases hp0_cases q with ⟨rfl, rfl⟩ | ⟨hb, _, _⟩
          · have z2 := un.frzs b (scrO vs) (.lst (ns.map V.int)) (by rw [← hH]; exact q)
            obtain ⟨e2, _⟩ := hok' b _ z2
            rw [ha] at e; cases e
            exact e2
          · obtain ⟨p, hp, e'⟩ := atT hb
            exact absurd e' (nb p hp)
      have grown : ∀ p ∈ cs, ∃ more : Array Value, s'.heap.get? p.2.1 = some { cls := .none, data := .fields more } := fun p hp => by
        obtain ⟨more, z⟩ := un.tbls p.2.1 #[] (by rw [← hH]; exact hp0_tab (memT p hp) (neA p hp))
        exact ⟨_, hok' p.2.1 _ z⟩
      refine ⟨rfl, ⟨fun b o e => ?_, fun b o e => ?_⟩, os, bare⟩
      · by_cases hb : ∃ p ∈ cs, p.2.1 = b
        · obtain ⟨p, hp, rfl⟩ := hb
          obtain ⟨more, hm⟩ := grown p hp
          rw [hT p hp] at e
          cases e
          exact .inr (.inl ⟨((C p hp).tab (hT p hp)).isCodeTable, rfl, #[], more, rfl, by rw [Array.empty_append]; exact hm⟩)
        · exact .inl (kept b o (fun p hp z => hb ⟨p, hp, z⟩) e)
      · by_cases hb : ∃ p ∈ cs, p.2.1 = b
        · obtain ⟨p, hp, rfl⟩ := hb
          obtain ⟨more, hm⟩ := grown p hp
          exact ⟨_, hm⟩
        · exact ⟨o, kept b o (fun p hp z => hb ⟨p, hp, z⟩) e⟩
/-- what a law's text gives at the head's heap h -/
def LawM (l : PySem.W.OpenLaw) (w : World) (K : PySem.W.Frag) (k n : Nat) (x : Str) (mg : Str → Option Value) (fa : Addr) (h : Heap) : Prop :=
  ∃ (fd : FuncData) (cs : List (Addr × Addr × Str)) (sp : MSp), noLst K = true ∧ (∀ p ∈ cs, h.get? p.2.1 = some tabO) ∧ (∀ p ∈ cs, K.lookup p.2.1 = none) ∧ (∀ p ∈ cs, PySem.W.CodeHd h p.1 p.2.1) ∧ (cs.map (·.2.1)).Nodup ∧ (∀ (s : Shared) (u : Value), BindsTo s fd ⟨[u], []⟩ [(x, u)]) ∧
    (∀ ns : List Int, ns.length ≤ n → (∀ z ∈ ns, Builtin.Int.intBits z ≤ 1048576) → sp [.ref 0] (mh0 ns (cs.map (·.2))) (fun m _ => m = .bl true) fun _ _ => False) ∧
    ∀ base : Heap, K.In base → base.Ns mainGlobals mg → (∀ p ∈ cs, TabB base mg p.1 p.2.1) → FnM l.prog w K mg base k fa fd [x] sp
theorem walk_M {l : PySem.W.OpenLaw} {n k : Nat} {q : Program} {loose : List Str} {XP : (Str → Option Value) → Heap → Prop} {YP : World → Heap → Prop} {d : DefRec} {x : Str}
    (hn : l.most = some n) (hn2 : n ≤ sizeLine) (hdf : d.params.defaults = []) (hr : RoomG k callerA)
    (F : ∀ (w : World) (mg : Str → Option Value) (fa : Addr) (h : Heap), YP w h → h.Ns mainGlobals mg → mg d.name = some (.ref fa) → ∃ K : PySem.W.Frag, K.In h ∧ LawM l w K k n x mg fa h) :
    PySem.W.WalkO q loose XP YP l.row.toRowW d [] (fun f vs => PySem.call f vs) := by
  refine Att.attach_callB hn hdf fun w s₀ s₁ mg mb fa o pm cd doc a vs ns G Y ho hd hcd hmg hobj hints hlen hbits hg => ?_
  obtain ⟨K, KX, fd, cs, sp, hK, hT, nT, C, hnd, hb, hsp, hF⟩ := F w mg fa _ Y G.T.g hmg
  exact law_endM KX G.T.g G.T.b G.T.builtins G.T.nolimit hg hK hT nT C hnd G.T.bmain hobj hints (Nat.le_trans hlen hn2) hr hF hb (hsp ns hlen hbits)
end Mn
end
section
set_option maxHeartbeats 2000000
namespace Mn
open PySem PySem.Spec PyProof.Rows L2

/-! ### how calls bind -/
def pick {α : Type} (idx : List Nat) (l : List α) : List α := idx.filterMap fun j => l[j]?
theorem pick_vals {vs : List V} {us : List Value} (h : Vals vs us) : ∀ idx : List Nat, Vals (pick idx vs) (pick idx us)
  | [] => .nil
  | j :: r => by
    unfold pick
    rw [List.filterMap_cons, List.filterMap_cons]
    have hl := h.length
    cases e : vs[j]? with
    | none =>
      have : us[j]? = none := by rw [List.getElem?_eq_none_iff] at e ⊢; omega
      rw [this]
      exact pick_vals h r
    | some v =>
      obtain ⟨u, hu, ru⟩ := h.get e
      rw [hu]
      exact .cons ru (pick_vals h r)
theorem pick_rvs {K : PySem.W.Frag} {f : List Addr} {H : Hp} {ms : List M} {vs : List V} (h : RVs K f H ms vs) : ∀ idx : List Nat, RVs K f H (pick idx ms) (pick idx vs)
  | [] => rfl
  | j :: r => by
    unfold pick
    rw [List.filterMap_cons, List.filterMap_cons]
    have hl := h.length
    cases e : ms[j]? with
    | none =>
      have : vs[j]? = none := by rw [List.getElem?_eq_none_iff] at e ⊢; omega
      rw [this]
      exact pick_rvs h r
    | some m =>
      obtain ⟨v, hv, rv⟩ := h.get e
      rw [hv]
      exact ⟨_, _, rfl, rv, pick_rvs h r⟩
section
variable {K : PySem.W.Frag} {x qual : Str} {params : Arguments} {body : List Stmt} {scope : Scope} {kws : List (Str × V)} {f : Addr} {fd : FuncData} {ps : List Str}
/-- no default is needed -/
theorem kb_all (F : FunD K x qual params body scope [] kws f fd) (n : Nat) (ks : List Str) (idx : List Nat)
    (h : ∀ (kV doc pm : Value) (an : Option Addr) (cdv ct : Value) (us ws : List Value), us.length = n → ws.length = ks.length → bindArgs (PySem.W.fnOf x qual params body scope .none kV doc pm an cdv ct) ⟨us, ks.zip ws⟩ = pure (ps.zip (pick idx (us ++ ws)))) :
    KBm K fd ps n ks (fun us ws => pick idx (us ++ ws)) (fun ms ns => pick idx (ms ++ ns)) where
  to := fun s us ws _ h1 h2 => by
    obtain ⟨oc, od, dV, kV, doc, pm, an, cdv, ct, osl, rfl, lk, hcd, hd, _⟩ := F.ex
    rcases hd with ⟨_, rfl⟩ | ⟨z, _⟩
    · exact .of_eq (h _ _ _ _ _ _ us ws h1 h2)
    · exact absurd rfl z
  rel := fun f H ms ns vs zs us ws _ _ r1 r2 v1 v2 => ⟨_, pick_vals (v1.append v2) idx, pick_rvs (r1.append r2) idx⟩
/-- keyword-only defaults fill up: ms those that lack, dM their values -/
theorem kb_kw (F : FunD K x qual params body scope [] kws f fd) (n : Nat) (ks : List Str) (ms : List (Str × V)) (dM : List M) (idx : List Nat) (hk : kws ≠ []) (hms : ∀ q ∈ ms, q ∈ kws) (hd : ∀ f H, RVs K f H dM (ms.map (·.2)))
    (h : ∀ (D : Addr) (doc pm : Value) (an : Option Addr) (cdv ct : Value) (us mv ws : List Value), us.length = n → mv.length = ms.length → ws.length = ks.length →
      KwChain D ((ms.map (·.1)).zip mv) (bindArgs (PySem.W.fnOf x qual params body scope .none (.ref D) doc pm an cdv ct) ⟨us, ks.zip ws⟩) (ps.zip (pick idx (us ++ (mv ++ ws))))) :
    ∃ mv : List Value, KBm K fd ps n ks (fun us ws => pick idx (us ++ (mv ++ ws))) (fun ns zs => pick idx (ns ++ (dM ++ zs))) := by
  obtain ⟨oc, od, dV, kV, doc, pm, an, cdv, ct, osl, rfl, lk, hcd, hdv, hkw⟩ := F.ex
  rcases hdv with ⟨_, rfl⟩ | ⟨z, _⟩
  · rcases hkw with z | ⟨D, rfl, hD⟩
    · exact absurd z hk
    · obtain ⟨mv, l, hv, hl⟩ := kwd_vals (K := K) (D := D) (ms := ms) fun q hq => hD q (hms q hq)
      exact ⟨mv, fun s us ws hK h1 h2 => L2.BindsTo.of_looks fun M => KwChain.looks hK hl (h D _ _ _ _ _ us mv ws h1 l h2), fun f H ns zn vs zs us ws _ _ r1 r2 v1 v2 => ⟨_, pick_vals (v1.append (hv.append v2)) idx, pick_rvs (r1.append ((hd f H).append r2)) idx⟩⟩
  · exact absurd rfl z
end
end Mn
end
section
set_option maxHeartbeats 2000000
namespace Mn
open PySem PySem.Spec PyProof.Rows L2
open LamX (TabB LamS lamCx lamEnv)

/-! ### helpers for printed texts -/
section
variable {P : Program} {w : World} {K : PySem.W.Frag} {mg : Str → Option Value} {base : Heap} {k : Nat} {x : Str} {params : Arguments} {body : List Stmt} {scope : Scope} {N ps : List Str} {wb : MTS}
/-- as fnm_of, the code object told by the def's name -/
theorem fnm_at {dvs : List V} {kws : List (Str × V)} {fd : FuncData} (F : FunD K x x params body scope dvs kws (He.ga K x) fd) (S : FnScope N ps scope) (sm : ∃ o, K.lookup sysModules = some o)
    (hbody : ∀ (A : Around) (outer : List Env) (s : Shared) (H : Hp) (E : XK), CM (cxM P w K mg base N x scope (He.ga K x) (.ref (He.codeOf K (x, none))) A outer s H E) (fun cls d _ H => E cls d H) k →
      SsOk (cxM P w K mg base N x scope (He.ga K x) (.ref (He.codeOf K (x, none))) A outer s H E) (fun cls d _ H => E cls d H) body wb) :
    FnM P w K mg base (k + 1) (He.ga K x) fd ps (runM N ps.length wb) where
  len := fun ms h Q E q => q.1
  run := fun A outer s H args us vs Q E hr e0 hb r h => by
    obtain ⟨oc, od, dV, kV, doc, pm, an, cdv, ct, osl, rfl, lk, hcd, _, _⟩ := F.ex
    obtain ⟨c, rfl⟩ := He.codeIn_ref hcd
    have ec : He.codeOf K (x, none) = c := He.codeOf_eq (p := (x, none)) lk rfl
    subst ec
    have hl : vs.length = ps.length := liftSp.len (fun _ _ _ _ q => q.1) h
    refine LamX.run_ofS (k := k) lk hcd S hr.r e0 hb r hl fun hr' => ?_
    obtain ⟨fa, mh, ms, Q', E', h1, h2, ⟨_, h3⟩, h4, h5⟩ := h
    refine ⟨_, hbody A outer s H E (cm_of sm S.nd (hr.deeper _)), fa, startM N ms, mh, { nx := fun _ h => Q' .non h, rt := Q', bk := fun _ _ => False, ct := fun _ _ => False, xc := fun e _ h => E' e h }, ⟨h1, start_rel h2, ?_, fun v H' q => h4 v H' q, ?_, ?_, ?_⟩, h3⟩
    · rintro σ' H' ⟨f', mh', sm', p, x, r', s', q⟩
      exact h4 _ _ ⟨f', mh', .non, p, x, r', rfl, q⟩
    · rintro σ' H' ⟨f', mh', sm', p, x, r', s', q⟩; exact q.elim
    · rintro σ' H' ⟨f', mh', sm', p, x, r', s', q⟩; exact q.elim
    · rintro cls d σ' H' ⟨f', mh', sm', C, ks, ms, us, dx, p, x, r', s', e1, e2, e3, l, rv, q⟩
      exact h5 _ _ _ ⟨f', mh', C, ks, ms, us, dx, p, x, r', e1, e2, e3, l, rv, q⟩
end
theorem cm_lam {X : Cx} {W : WX} {j k : Nat} (c : CM X W j) {A : Around} {outer : List Env} {s : Shared} {H : Hp} {E : XK} {scope : Scope} {f c' : Addr} (hr : RoomG k (A.deeper (lamEnv X scope s.heap.objs.size f c'))) :
    CM (lamCx X A outer s H E scope f c') (fun cls d _ H => E cls d H) k where
  calm := rfl
  tk := takes_of rfl rfl rfl rfl
  po := passes_of (E₁ := fun e' s'' => L2.CX X.prog X.w outer H s E e' s'') rfl
  rm := hr
  sm := c.sm
  nd := c.nd
theorem cm_told {X : Cx} {Ng : List Str} {x : Str} {sg : Scope} {g : Addr} {cdg : Value} {s : Shared} {H : Hp} {k : Nat} (sm : ∃ o, X.K.lookup sysModules = some o) (nd : Ng.Nodup) (hr : RoomG k (toldCx X Ng x sg g cdg s H).A) : CM (toldCx X Ng x sg g cdg s H).nox W0 k where
  calm := rfl
  tk := LamX.takes0
  po := .never
  rm := hr
  sm := sm
  nd := nd
section
variable {X : Cx} {W : WX} {k : Nat}
theorem m_told {sp : TSp} {x a : Str} {g c P : Addr} {pg : Arguments} {bg : List Stmt} {sg : Scope} {fd : FuncData} {Ng : List Str}
    {params : Arguments} {body : Expr} {scope : Scope} {w : MTE} {p lpos pos : Pos} (cm : CM X W (k + 2)) (hg : Gl X x) (hm : X.mg x = some (.ref g)) (D : FunD X.K x x pg bg sg [] [] g fd)
    (hb : ∀ (kV doc pm : Value) (an : Option Addr) (cdv ct : Value) (us : List Value), us.length = [a].length → bindArgs (PySem.W.fnOf x x pg bg sg .none kV doc pm an cdv ct) ⟨us, []⟩ = pure ([a].zip us)) (Sg : FnScope Ng [a] sg) (hNg : Ng[0]? = some a) (hva : Vis sg a)
    (hG : ∀ cdv, ToldM X Ng x sg g cdv bg a (k + 1) sp)
    (TB : TabB X.base X.mg c P) (hcode : X.env.code = .ref c) (L : LamS X.env.scope scope) (hdef : defaultsOf params X.env = ([], []))
    (hbind : ∀ (q : Str) (cl : List (Str × Addr)) (pm cv ctv : Value), bindArgs (PySem.W.kla_fn "<lambda>" q params body scope cl pm cv ctv) ⟨[], []⟩ = pure [])
    (hbody : ∀ (A : Around) (outer : List Env) (s : Shared) (H : Hp) (E : XK) (f c' : Addr), CM (lamCx X A outer s H E scope f c') (fun cls d _ H => E cls d H) k → EOk (lamCx X A outer s H E scope f c') (fun cls d _ H => E cls d H) body w)
    (hdb : (x == ("__debug__" : Str)) = false := by decide) (hd : (a == ("__debug__" : Str)) = false := by decide) (hcd : (a == ("__classdict__" : Str)) = false := by decide) :
    EOk X W (.Call (.Name x p) [.Lambda params body scope lpos] [] pos) (wLam P (X.env.qual ++ "<lambda>") sp w) := by
  have B := D.bindsN hb
  obtain ⟨oc, od, dV, kV, doc, pm, an, cdv, ct, osl, rfl, lk, hcdv, _, _⟩ := D.ex
  exact m_lamcall cm hg hm D.kp lk hcdv B Sg hNg hva (hG cdv) TB hcode L hdef hbind (fun A outer s H E f c' hr => hbody A outer s H E f c' (cm_lam cm hr)) hdb hd hcd
end
abbrev qLam (f : Str) : Str := f ++ ".<locals>." ++ "<lambda>"
def xt0 : Str → M → Option Bool := fun _ _ => none
theorem xt0_ok {K : PySem.W.Frag} : XtOk K xt0 := fun _ _ _ h => nomatch h
/-! ### more rules -/
def mAddI : MR2 := mI (fun _ _ => True) fun i j => .int (i + j)
def mMulI : MR2 := mI BitsOk fun i j => .int (i * j)
theorem l_addI {X : Cx} : L2R X.K (rI0 fun i j => .int (i + j)) mAddI := l_I0 fun _ _ _ _ => rfl
theorem l_mulI {X : Cx} : L2R X.K (rI CMulX fun i j => .int (i * j)) mMulI := l_I (fun _ _ h => h) fun _ _ _ _ => rfl
def wXf (cs : List Str) (n : Str) (we : MTE) : MTE := fun sm h Q E => we sm h (fun x h1 => ∃ C ks ms m, x = .exc C ks ms ∧ C ∈ cs ∧ fldOf ks ms n = some m ∧ Q m h1) E
def wNotE (w : MTE) : MTE := fun sm h Q E => w sm h (fun x h1 => ∃ c, x = .bl c ∧ Q (.bl (!c)) h1) E
def wPar3 (i j l : Nat) (wa : MTA) : MTS := fun D sm h => wa sm h (fun ms h1 => ∃ u v w, ms = [u, v, w] ∧ D.nx (((sm.set i (some u)).set j (some v)).set l (some w)) h1) (fun e h1 => D.xc e sm h1)
section
variable {X : Cx} {W : WX} {a b c : Expr} {wa : MTA} {ta : MTT} {pos : Pos}
theorem s_par3 {i j l : Nat} {x y z : Str} {px py pz pt : Pos} {kt k2 pt2} (hc : X.calm = true) (hN : X.N.Nodup) (hi : X.N[i]? = some x) (hj : X.N[j]? = some y) (hl : X.N[l]? = some z) (hij : i ≠ j) (hil : i ≠ l) (hjl : j ≠ l)
    (hx : X.env.scope.names.lookup x = some .local) (hy : X.env.scope.names.lookup y = some .local) (hz : X.env.scope.names.lookup z = some .local) (ha : AOk X W [a, b, c] wa)
    (hw : swappedStores [.Tuple [.Name x px, .Name y py, .Name z pz] kt pt] (.Tuple [a, b, c] k2 pt2) X.env = pure (some [x, y, z]) := by rfl)
    (hs : swapsWithSole [.Tuple [.Name x px, .Name y py, .Name z pz] kt pt] (.Tuple [a, b, c] k2 pt2) pos.line X.env = pure false := by rfl) :
    SOk X W (.Assign [.Tuple [.Name x px, .Name y py, .Name z pz] kt pt] (.Tuple [a, b, c] k2 pt2) pos) (wPar3 i j l wa) :=
  PS.mono (ps_par3 hc hN hi hj hl hij hil hjl hx hy hz ha hw hs) fun D σ H ⟨f, sm, mh, D', a, q⟩ => a.at.goA q fun f1 mh1 H1 ms vs p x a1 r1 ⟨u, v, w, e, q1⟩ => by
    subst e
    obtain ⟨u1, r, rfl, ru, v1, r', rfl, rv, w1, r'', rfl, rw', e'⟩ := r1
    have : r'' = [] := e'
    subst this
    exact ⟨u1, v1, w1, rfl, a.nx _ _ ⟨f1, mh1, _, p, x, a1.h, ((a1.s.set ru).set rv).set rw', q1⟩⟩
end
/-- a def with defaults, all of them given -/
theorem kd_full {K : PySem.W.Frag} {x qual : Str} {params : Arguments} {body : List Stmt} {scope : Scope} {dvs : List V} {f : Addr} {fd : FuncData} {ps : List Str} (F : FunD K x qual params body scope dvs [] f fd)
    (h : ∀ (dV kV doc pm : Value) (an : Option Addr) (cdv ct : Value) (us : List Value), us.length = ps.length → bindArgs (PySem.W.fnOf x qual params body scope dV kV doc pm an cdv ct) ⟨us, []⟩ = pure (ps.zip us)) : L2.Binds K fd ps [] := by
  obtain ⟨oc, od, dV, kV, doc, pm, an, cdv, ct, osl, rfl, lk, hcd, hd, _⟩ := F.ex
  exact Binds.all fun us hl => h _ _ _ _ _ _ _ us hl
end Mn
end
section
set_option maxHeartbeats 2000000
namespace Mn
open PySem PySem.Spec PyProof.Rows L2

/-! ### the head's Hook -/
def asM (g : Addr → Option Obj) (n : Nat) : List Addr := (sysModules :: cStatics :: He.asD g n).eraseDups
abbrev fM (g : Addr → Option Obj) (n : Nat) : PySem.W.Frag := He.frT g (asM g n)
abbrev AlM : Type := He.AlD × Bool
def obsM (n : Nat) (fn : List He.DefD) (tf : List He.Defn) (ex : PySem.W.Frag → Bool) (g : Addr → Option Obj) : AlM := (He.obsD [] fn (fM g n), ex (fM g n) && He.tabsB g tf (fM g n))
structure SaysM (fn : List He.DefD) (tf : List He.Defn) (ex : PySem.W.Frag → Bool) (h : Heap) (K : PySem.W.Frag) : Prop where
  d : He.SaysD [] fn K
  more : ex K = true
  hd : ∀ p ∈ tf, PySem.W.codeHdIn K (He.cT K p).1 (He.cT K p).2 = true
  out : ∀ p ∈ tf, K.lookup (He.cT K p).2 = none
  empty : ∀ p ∈ tf, h.get? (He.cT K p).2 = some { cls := .none, data := .fields #[] }
section
variable {n : Nat} {fn : List He.DefD} {tf : List He.Defn} {ex : PySem.W.Frag → Bool}
theorem saysM_of {h : Heap} (e : obsM n fn tf ex h.get? = (He.valD fn, true)) : SaysM fn tf ex h (fM h.get? n) := by
  obtain ⟨h1, h2⟩ := He.ba (congrArg (fun z : AlM => z.2) e)
  have tb : ∀ p ∈ tf, PySem.W.codeHdIn (fM h.get? n) (He.cT (fM h.get? n) p).1 (He.cT (fM h.get? n) p).2 = true ∧ ∃ o, h.get? (He.cT (fM h.get? n) p).2 = some o ∧ He.emptyTab o = true := fun p hp => by
    obtain ⟨h3, h4⟩ := He.ba (List.all_eq_true.mp h2 p hp)
    cases q : h.get? (He.cT (fM h.get? n) p).2 with
    | none => rw [q] at h4; cases h4
    | some o => rw [q] at h4; exact ⟨h3, o, rfl, h4⟩
  refine ⟨congrArg (fun z : AlM => z.1) e, h1, fun p hp => (tb p hp).1, fun p hp => ?_, fun p hp => ?_⟩
  · obtain ⟨_, o, q, z⟩ := tb p hp
    exact He.frT_none q z
  · obtain ⟨_, o, q, z⟩ := tb p hp
    rw [q, He.emptyTab_eq z]
def hookM (n : Nat) (fn : List He.DefD) (tf : List He.Defn) (ex : PySem.W.Frag → Bool) : PySem.W.Hook where
  α := AlM
  obs := fun s => obsM n fn tf ex s.heap.get?
  val := fun _ => (He.valD fn, true)
  says := fun _ h => ∃ K : PySem.W.Frag, K.In h ∧ SaysM fn tf ex h K
  of := fun _ _ e => ⟨_, He.frT_in, saysM_of e⟩
  keeps := fun _ _ _ ⟨K, hK, c⟩ k => ⟨K, PySem.W.Frag.In.keeps hK k, ⟨c.d, c.more, c.hd, c.out, fun p hp => k _ _ (c.empty p hp)⟩⟩
theorem obsM_eq {g : Addr → Option Obj} {s : Shared} (h : ∀ a, g a = s.heap.get? a) : obsM n fn tf ex g = (hookM n fn tf ex).obs s := by
  have e : g = s.heap.get? := funext h
  rw [e]
  rfl
end
/-! ### facts by Bool -/
def mkB (K : PySem.W.Frag) (C : Addr) (tail : List Value) (newId : String) : Bool :=
  PySem.W.excInitIn K C tail newId && (PySem.W.excOver K C tail && (PySem.W.hasDictIn K C && (decide (PySem.W.findIn K (.ref C) "__setattr__" = some (some (.builtin "object.__setattr__"))) && (decide (PySem.W.subIn K (.ref C) (.type "BaseException") = some true) && (decide (PySem.W.typeIn K (.ref C) = some (.type "type")) && PySem.W.keepIn K (.ref C))))))
theorem mkB_ok {K : PySem.W.Frag} {C : Addr} {tail : List Value} {newId : String} (h : mkB K C tail newId = true) : MkC K C tail newId := by
  obtain ⟨h1, h⟩ := He.ba h
  obtain ⟨h2, h⟩ := He.ba h
  obtain ⟨h3, h⟩ := He.ba h
  obtain ⟨h4, h⟩ := He.ba h
  obtain ⟨h5, h⟩ := He.ba h
  obtain ⟨h6, h7⟩ := He.ba h
  exact ⟨h1, h2, h3, of_decide_eq_true h4, of_decide_eq_true h5, of_decide_eq_true h6, h7⟩
def valB (r : Option PySem.W.CFound) (v : Value) : Bool := match r with
  | some (.val u) => decide (u = v)
  | _ => false
def baseB (K : PySem.W.Frag) (B : Addr) (initId : String) : Bool :=
  PySem.W.readsIn K B (.type "type") && (decide (PySem.W.specialIn K (.ref B) "__getattribute__" = some (some (.builtin "type.__getattribute__"))) && valB (PySem.W.findCls K (.ref B) (.type "type") "__init__") (.builtin initId))
theorem baseB_ok {K : PySem.W.Frag} {B : Addr} {initId : String} (h : baseB K B initId = true) : BaseC K B initId := by
  obtain ⟨h1, h⟩ := He.ba h
  obtain ⟨h2, h3⟩ := He.ba h
  refine ⟨h1, of_decide_eq_true h2, ?_⟩
  unfold valB at h3
  split at h3
  · rename_i u e
    rw [e, of_decide_eq_true h3]
  · cases h3
def exkB (K : PySem.W.Frag) (D : Addr) : Bool :=
  (PySem.W.clsIn K D).isSome && (decide (PySem.W.findIn K (.ref D) "__getattribute__" = some (some (.builtin "BaseException.__getattribute__"))) && (decide (PySem.W.findIn K (.ref D) "__getattr__" = some none) && (decide (PySem.W.subIn K (.ref D) (.type "BaseException") = some true) && (PySem.W.hasDictIn K D &&
    (decide (PySem.W.findIn K (.ref D) "__class__" = some (some (.builtin "object.__class__"))) && (decide (PySem.W.specialIn K (.builtin "object.__class__") "__get__" = some (some (.builtin "getset_descriptor.__get__"))) && (decide (PySem.W.takesIn K (.builtin "object.__class__") = some true) && decide (PySem.W.mroIn K D (.type "object") = some true))))))))
theorem exkB_ok {K : PySem.W.Frag} {D : Addr} (h : exkB K D = true) : ExcK K D := by
  obtain ⟨h1, h⟩ := He.ba h
  obtain ⟨h2, h⟩ := He.ba h
  obtain ⟨h3, h⟩ := He.ba h
  obtain ⟨h4, h⟩ := He.ba h
  obtain ⟨h5, h⟩ := He.ba h
  obtain ⟨h6, h⟩ := He.ba h
  obtain ⟨h7, h⟩ := He.ba h
  obtain ⟨h8, h9⟩ := He.ba h
  exact ⟨h1, of_decide_eq_true h2, of_decide_eq_true h3, of_decide_eq_true h4, h5, of_decide_eq_true h6, of_decide_eq_true h7, of_decide_eq_true h8, of_decide_eq_true h9⟩
theorem all_at' {l : List Bool} (h : l.all id = true) (i : Nat) {b : Bool} (e : l[i]? = some b) : b = true := List.all_eq_true.mp h b (List.mem_of_getElem? e)
end Mn
end
section
set_option maxHeartbeats 2000000
namespace Mn
open PySem PySem.Spec PyProof.Rows L2

/-! ### loops by invariants -/
theorem loop_inv {chk : MH → Prop} {g : MTG} {wb : MTS} {D : MD} (items : List M) (I : Nat → MS → MH → Prop) {sm : MS} {h : MH} (h0 : I 0 sm h)
    (step : ∀ i m sm h, items[i]? = some m → I i sm h → chk h ∧ ∀ nx' : MS → MH → Prop, (∀ sm h, I (i + 1) sm h → nx' sm h) → g m sm h fun sm1 h1 => wb { D with nx := nx', ct := nx', bk := D.nx } sm1 h1)
    (fin : ∀ sm h, I items.length sm h → chk h ∧ D.nx sm h) : wLoop chk g wb items D sm h := by
  have key : ∀ (n i : Nat) (sm : MS) (h : MH), items.length - i = n → i ≤ items.length → I i sm h → wLoop chk g wb (items.drop i) D sm h := by
    intro n
    induction n with
    | zero =>
      intro i sm h hn hi hI
      have e : i = items.length := by omega
      subst e
      rw [List.drop_length]
      exact fin sm h hI
    | succ n ih =>
      intro i sm h hn hi hI
      have hlt : i < items.length := by omega
      rw [List.drop_eq_getElem_cons hlt]
      obtain ⟨a, b⟩ := step i items[i] sm h (by simp) hI
      exact ⟨a, b _ fun sm h hI' => ih (i + 1) sm h (by omega) hlt hI'⟩
  simpa using key items.length 0 sm h (by omega) (Nat.zero_le _) h0
theorem cloop_inv {chk : MH → Prop} {g : MTG} {wt : MTT} {we : MTE} {sm : MS} {D : Nat} {Q : List M → MH → Prop} (items : List M) (I : Nat → List M → MH → Prop) {h : MH} (h0 : I 0 [] h)
    (step : ∀ i m acc h, items[i]? = some m → I i acc h → chk h ∧ ∀ nx' : List M → MH → Prop, (∀ acc h, I (i + 1) acc h → nx' acc h) → g m sm h fun sm2 h2 => wt sm2 h2 (fun b h3 =>
      if b = true then we sm2 h3 (fun y h4 => h4[D]? = some (.lst acc) ∧ acc.length < SZ ∧ nx' (acc ++ [y]) (h4.set D (.lst (acc ++ [y])))) FK else nx' acc h3) FK)
    (fin : ∀ acc h, I items.length acc h → chk h ∧ h[D]? = some (.lst acc) ∧ Q acc h) : cLoop chk g wt we sm D Q items [] h := by
  have key : ∀ (n i : Nat) (acc : List M) (h : MH), items.length - i = n → i ≤ items.length → I i acc h → cLoop chk g wt we sm D Q (items.drop i) acc h := by
    intro n
    induction n with
    | zero =>
      intro i acc h hn hi hI
      have e : i = items.length := by omega
      subst e
      rw [List.drop_length]
      exact fin acc h hI
    | succ n ih =>
      intro i acc h hn hi hI
      have hlt : i < items.length := by omega
      rw [List.drop_eq_getElem_cons hlt]
      obtain ⟨a, b⟩ := step i items[i] acc h (by simp) hI
      refine ⟨a, ?_⟩
      exact b _ fun acc h hI' => ih (i + 1) acc h (by omega) hlt hI'
  simpa using key items.length 0 [] h (by omega) (Nat.zero_le _) h0

/-! ### data -/
theorem pd_mono {h : MH} {r : MH} : ∀ (n : Nat) (m : M) (d : PyData), pd h n m = some d → pd (h ++ r) n m = some d := by
  intro n
  have all : ∀ (n : Nat), (∀ (m : M) (d : PyData), pd h n m = some d → pd (h ++ r) n m = some d) → ∀ (xs : List M) (ds : List PyData), pdL (pd h n) xs = some ds → pdL (pd (h ++ r) n) xs = some ds := by
    intro n ih xs
    induction xs with
    | nil => intro ds e; exact e
    | cons x xs ihx =>
      intro ds e
      obtain ⟨d, rd, rfl, h1, h2⟩ := pdL_cons e
      unfold pdL
      rw [ih x d h1, ihx rd h2]
  induction n with
  | zero => intro m d e; cases m <;> exact e
  | succ n ih =>
    intro m d e
    cases m with
    | tup xs =>
      have e : (pdL (pd h n) xs).map PyData.tuple = some d := e
      obtain ⟨ds, h1, rfl⟩ := Option.map_eq_some_iff.mp e
      show (pdL (pd (h ++ r) n) xs).map PyData.tuple = _
      rw [all n ih xs ds h1]; rfl
    | ref k =>
      have e : (match h[k]? with | some (.lst xs) => (pdL (pd h n) xs).map PyData.list | some (.dct []) => some (.dict []) | _ => none) = some d := e
      show (match (h ++ r)[k]? with | some (.lst xs) => (pdL (pd (h ++ r) n) xs).map PyData.list | some (.dct []) => some (.dict []) | _ => none) = some d
      cases q : h[k]? with
      | none => rw [q] at e; cases e
      | some o =>
        have hk : k < h.length := (List.getElem?_eq_some_iff.mp q).1
        rw [List.getElem?_append_left hk, q]
        rw [q] at e
        cases o with
        | lst xs =>
          obtain ⟨ds, h1, rfl⟩ := Option.map_eq_some_iff.mp e
          show (pdL (pd (h ++ r) n) xs).map PyData.list = _
          rw [all n ih xs ds h1]; rfl
        | dct kvs => cases kvs <;> exact e
        | _ => cases e
    | _ => exact e
theorem pdL_rep {g : M → Option PyData} {m : M} {d : PyData} (e : g m = some d) : ∀ n : Nat, pdL g (List.replicate n m) = some (List.replicate n d)
  | 0 => rfl
  | n + 1 => by
    rw [List.replicate_succ, List.replicate_succ]
    unfold pdL
    rw [e, pdL_rep e n]
end Mn
end
section
set_option maxHeartbeats 2000000
namespace Mn
open PySem PySem.Spec PyProof.Rows L2

/-! ### equations for the small world's runs -/
theorem mIx_eq {x : M} {i : Int} {h : MH} {Q : KM} : mIx x (.int i) h Q ↔ ∃ xs v, itemsM h x = some xs ∧ atI xs i = some v ∧ Q v h := by
  unfold mIx
  constructor
  · rintro ⟨xs, i', v, a, b, c, d⟩
    cases b
    exact ⟨xs, v, a, c, d⟩
  · rintro ⟨xs, v, a, c, d⟩
    exact ⟨xs, i, v, a, rfl, c, d⟩
theorem items_lst {h : MH} {n : Nat} {xs : List M} (e : h[n]? = some (.lst xs)) : itemsM h (.ref n) = some xs := by
  show (match h[n]? with | some (.lst xs) => some xs | some (.rol xs) => some xs | _ => none) = some xs
  rw [e]
theorem items_rol {h : MH} {n : Nat} {xs : List M} (e : h[n]? = some (.rol xs)) : itemsM h (.ref n) = some xs := by
  show (match h[n]? with | some (.lst xs) => some xs | some (.rol xs) => some xs | _ => none) = some xs
  rw [e]
theorem items_tup {h : MH} {xs : List M} : itemsM h (.tup xs) = some xs := rfl
theorem atI_nn {α : Type} {xs : List α} {i : Int} (h0 : 0 ≤ i) (h1 : i < xs.length) : atI xs i = xs[i.toNat]? := by
  unfold atI ixN
  rw [if_pos h0, if_pos h1]; rfl
theorem atI_neg1 {α : Type} {xs : List α} (h1 : xs ≠ []) : atI xs (-1) = xs.getLast? := by
  have h : 0 < xs.length := List.length_pos_iff.mpr h1
  unfold atI ixN
  rw [if_neg (by omega), if_pos (by omega), List.getLast?_eq_getElem?]
  have : ((-1 : Int) + xs.length).toNat = xs.length - 1 := by omega
  simp [this]
theorem ix_go {x : M} {i : Int} {h : MH} {Q : KM} {xs : List M} {v : M} (a : itemsM h x = some xs) (b : atI xs i = some v) (q : Q v h) : mIx x (.int i) h Q := ⟨xs, i, v, a, rfl, b, q⟩
theorem len_go {m : M} {xs : List M} {h : MH} {Q : KM} (a : itemsM h m = some xs) (q : Q (.int xs.length) h) : fLen [m] h Q := by
  refine ⟨m, xs.length, rfl, ?_, q⟩
  cases m with
  | tup ys => exact congrArg (fun z : Option (List M) => z.map (·.length)) a
  | ref n => show (itemsM h (.ref n)).map _ = _; rw [a]; rfl
  | _ => cases a
theorem pow_small {i j : Int} {h : MH} {Q : KM} (h0 : 0 ≤ j) (h1 : (Builtin.Int.intBits i : Int) * j ≤ 2 ^ 27) (q : Q (.int (i ^ j.toNat)) h) : mPow (.int i) (.int j) h Q := ⟨⟨h0, h1⟩, q⟩
theorem bits_le {i : Int} {n : Nat} (h : i.natAbs < 2 ^ n) : Builtin.Int.intBits i ≤ n := by
  unfold Builtin.Int.intBits
  split
  · exact Nat.zero_le _
  · rename_i hi
    have : i.natAbs ≠ 0 := by
      intro z
      exact hi (by simp [Int.natAbs_eq_zero.mp z])
    exact Nat.succ_le_of_lt ((Nat.log2_lt this).mpr h)
end Mn
end
section
set_option maxHeartbeats 2000000
namespace Mn
open PySem PySem.Spec PyProof.Rows L2

/-! ### texts are short -/
def Sh (d : PyData) (B : Nat) : Prop := d.showable = true ∧ d.shown.length ≤ B
theorem Sh.rep {d : PyData} {B : Nat} (h : Sh d B) (hB : B ≤ 16777216) : RepOk d := ⟨h.1, Nat.le_trans h.2 hB⟩
theorem Sh.le {d : PyData} {B C : Nat} (h : Sh d B) (hB : B ≤ C) : Sh d C := ⟨h.1, Nat.le_trans h.2 hB⟩
theorem sh_non : Sh .none 4 := ⟨by simp only [PyData.showable], by simp only [PyData.shown]; decide⟩
theorem sh_bl (b : Bool) : Sh (.bool b) 5 := ⟨by simp only [PyData.showable], by simp only [PyData.shown]; cases b <;> decide⟩
theorem sh_int {a : Int} {k : Nat} (h : a.natAbs < 2 ^ k) (hk : k ≤ 1920) (h0 : 0 < k := by decide) : Sh (.int a) (k + 1) := by
  have hl : a.natAbs.log2 < k := by
    by_cases z : a.natAbs = 0
    · rw [z]; exact h0
    · exact (Nat.log2_lt z).mpr h
  refine ⟨?_, ?_⟩
  · simp only [PyData.showable]; exact decide_eq_true (by omega)
  · simp only [PyData.shown]
    have := int_text_length_le h0 hl
    rw [PySem.ofString_length]
    exact this
theorem shownAll_len : ∀ ds : List PyData, (PyData.shownAll ds).length = ds.length
  | [] => by simp only [PyData.shownAll, List.length_nil]
  | d :: ds => by simp only [PyData.shownAll, List.length_cons, shownAll_len ds]
theorem shownAll_piled {B : Nat} : ∀ ds : List PyData, (∀ d ∈ ds, Sh d B) → PyData.showableAll ds = true ∧ piled (PyData.shownAll ds) ≤ ds.length * (B + 2)
  | [], _ => ⟨by simp only [PyData.showableAll], by simp only [PyData.shownAll]; exact Nat.zero_le _⟩
  | d :: ds, h => by
    obtain ⟨a, b⟩ := shownAll_piled ds fun x hx => h x (List.mem_cons_of_mem _ hx)
    have hd := h d List.mem_cons_self
    refine ⟨by simp only [PyData.showableAll, a, hd.1, Bool.and_self], ?_⟩
    simp only [PyData.shownAll]
    rw [piled_cons, List.length_cons, Nat.add_mul]
    have := hd.2
    omega
theorem textFrom0 (ts : List Str) : (textFrom 0 "[" ts).length ≤ 1 + piled ts := by
  cases ts with
  | nil => show (1 : Nat) ≤ _; omega
  | cons t r =>
    show (textFrom 1 _ r).length ≤ _
    rw [textFrom_length_pos r 1 _ (by decide), strLen_append, strLen_append, piled_cons]
    have e1 : (("[" : String) : Str).length = 1 := rfl
    have e2 : ((if 0 > 0 then ", " else "" : String) : Str).length = 0 := rfl
    omega
theorem sh_list {ds : List PyData} {B : Nat} (n : Nat) (h : ∀ d ∈ ds, Sh d B) (hn : ds.length ≤ n) : Sh (.list ds) (n * (B + 2) + 2) := by
  obtain ⟨a, b⟩ := shownAll_piled ds h
  refine ⟨by simp only [PyData.showable]; exact a, ?_⟩
  simp only [PyData.shown, listText]
  rw [strLen_append]
  have := textFrom0 (PyData.shownAll ds)
  have e : (("]" : String) : Str).length = 1 := rfl
  have := Nat.mul_le_mul_right (B + 2) hn
  omega
theorem sh_tup {ds : List PyData} {B : Nat} (n : Nat) (h : ∀ d ∈ ds, Sh d B) (hn : ds.length ≤ n) : Sh (.tuple ds) (n * (B + 2) + 3) := by
  obtain ⟨a, b⟩ := shownAll_piled ds h
  refine ⟨by simp only [PyData.showable]; exact a, ?_⟩
  simp only [PyData.shown, tupleText]
  rw [strLen_append, strLen_append]
  have e1 : (("(" : String) : Str).length = 1 := rfl
  have e3 : (((if (PyData.shownAll ds).length == 1 then ",)" else ")" : String) : Str)).length ≤ 2 := by split <;> decide
  have := Nat.mul_le_mul_right (B + 2) hn
  by_cases z : PyData.shownAll ds = []
  · rw [z] at e3 ⊢
    have : (Str.join ", " ([] : List Str)).length = 0 := rfl
    omega
  · have := join_length_add _ z
    omega
theorem sh_rep {d : PyData} {B : Nat} (n : Nat) {k : Nat} (h : Sh d B) (hn : k ≤ n) : Sh (.list (List.replicate k d)) (n * (B + 2) + 2) :=
  sh_list n (fun x hx => by rw [(List.mem_replicate.mp hx).2]; exact h) (by rw [List.length_replicate]; exact hn)
end Mn
end
section
set_option maxHeartbeats 1000000
namespace Lw
open PySem PySem.Spec PyProof.Rows L2 Mn
def lamDefs : List Str := ["_law_right"]
def wDeed (lam : M) (tl : MH → KM → KM → Prop) : MTE := fun sm h Q E => sm[0]? = some (some lam) ∧ tl h Q E
def top (i : Nat) : Stmt := PySem.Challenge.pw_stonewalk_k01_integers_and_places.main.body.getD i (.Pass ⟨0, 0, 0, 0⟩)
/-! ### names, tables, facts -/
def xcs : List Str := ["InvalidPlace", "InvalidDistance", "InvalidBag", "InvalidRow", "InvalidNumber", "NoStone", "TooManyStones", "OutOfBounds"]
def xcat : Str → Bool := fun _ => true
def xtI (C : Str) (m : M) : Option Bool := match m with
  | .glo x => if C ∈ xcs ∧ x ∈ (["InvalidBag", "InvalidDistance", "InvalidNumber", "InvalidPlace", "InvalidRow", "NoStone", "OutOfBounds", "StoneError", "TooManyStones", "WalkError"] : List Str) then some (decide ((C, x) ∈ ([("InvalidPlace", "InvalidPlace"), ("InvalidPlace", "StoneError"), ("InvalidDistance", "InvalidDistance"), ("InvalidDistance", "StoneError"), ("InvalidBag", "InvalidBag"), ("InvalidBag", "StoneError"), ("InvalidRow", "InvalidRow"), ("InvalidRow", "StoneError"), ("InvalidNumber", "InvalidNumber"), ("InvalidNumber", "StoneError"), ("NoStone", "NoStone"), ("NoStone", "WalkError"), ("TooManyStones", "TooManyStones"), ("TooManyStones", "WalkError"), ("OutOfBounds", "OutOfBounds"), ("OutOfBounds", "WalkError")] : List (Str × Str)))) else none
  | .ty x => if C ∈ xcs ∧ x ∈ (["RuntimeError", "ValueError"] : List String) then some (decide ((C, x) ∈ ([("InvalidPlace", "ValueError"), ("InvalidDistance", "ValueError"), ("InvalidBag", "ValueError"), ("InvalidRow", "ValueError"), ("InvalidNumber", "ValueError"), ("NoStone", "RuntimeError"), ("TooManyStones", "RuntimeError"), ("OutOfBounds", "RuntimeError")] : List (Str × String)))) else none
  | _ => none
def w_is_integer_0a_0 : MTS :=
    wRet (wCon (.bl false))
def w_is_integer_1 : MTS :=
    wRet (wAndV (wOrV (wOp (mIs) (wVar 1) (wCon .non)) (wOp (mGe) (wVar 0) (wVar 1))) (wOrV (wOp (mIs) (wVar 2) (wCon .non)) (wOp (mLe) (wVar 0) (wVar 2))))
def w_is_integer : MTS :=
    wSeq (wIf (wOrT (wNotT (wTst (wFn (fIsi xt0) (wCons (wVar 0) (wCons (wCon (.ty "int")) (wNil)))))) (wTst (wFn (fIsi xt0) (wCons (wVar 0) (wCons (wCon (.ty "bool")) (wNil))))))
     (w_is_integer_0a_0)
     (wNext))
    (w_is_integer_1)
def r_is_integer : MSp := runM ["value", "least", "most"] 3 (w_is_integer)
def w_is_place : MTS :=
    wRet (wCallK (r_is_integer) (fun ms ns => pick [0, 1, 2] (ms ++ ns)) 1 2 (wCons (wVar 0) (wNil)) (wCons (wUn mNeg (wCon (.int 1000000000000000000000000000000))) (wCons (wCon (.int 1000000000000000000000000000000)) (wNil))))
def r_is_place : MSp := runM ["value"] 1 (w_is_place)
def w_check_place_0a_0 : MTS :=
    wRaise "InvalidPlace" "value" [] (wCons (wVar 0) (wNil))
def w_check_place : MTS :=
    wIf (wNotT (wTst (wCall (fun ms => r_is_place ((fun ms ns => pick [0] (ms ++ ns)) ms [])) 1 (wCons (wVar 0) (wNil)))))
     (w_check_place_0a_0)
     (wNext)
def r_check_place : MSp := runM ["value"] 1 (w_check_place)
def w_check_distance_0a_0 : MTS :=
    wRaise "InvalidDistance" "value" [] (wCons (wVar 0) (wNil))
def w_check_distance : MTS :=
    wIf (wNotT (wTst (wCallK (r_is_integer) (fun ms ns => pick [0, 1, 2] (ms ++ ns)) 1 2 (wCons (wVar 0) (wNil)) (wCons (wUn mNeg (wCon (.int 2000000000000000000000000000000))) (wCons (wCon (.int 2000000000000000000000000000000)) (wNil))))))
     (w_check_distance_0a_0)
     (wNext)
def r_check_distance : MSp := runM ["value"] 1 (w_check_distance)
def w__law_cell_3a1a_0 : MTS :=
    wAsg (wOp mFdiv (wVar 4) (wCon (.int 306783379))) (gN 4)
def w__law_cell_3a2a_0 : MTS :=
    wRet (wOp mMod (wVar 4) (wCon (.int 306783379)))
def w__law_cell_3a_2 : MTS :=
    wIf (wTst (wOp (mGt) (wVar 4) (wCon (.int 0))))
      (w__law_cell_3a2a_0)
      (wNext)
def w__law_cell_3a_1 : MTS :=
    wSeq (wFor (wRng1 (wCons (wOp mFdiv (wVar 2) (wFn fLen (wCons (wVar 0) (wNil)))) (wNil))) (gN 5)
      (w__law_cell_3a1a_0))
    (w__law_cell_3a_2)
def w__law_cell_3a_0 : MTS :=
    wSeq (wAsg (wOp mIx (wVar 0) (wOp mMod (wVar 2) (wFn fLen (wCons (wVar 0) (wNil))))) (gN 4))
    (w__law_cell_3a_1)
def w__law_cell_4a_0 : MTS :=
    wAsg (wOp mAdd (wVar 3) (wOp mMul (wOp mMod (wOp mIx (wVar 0) (wOp mMod (wVar 2) (wFn fLen (wCons (wVar 0) (wNil))))) (wCon (.int 2147483629))) (wOp mAdd (wCon (.int 1)) (wOp mFdiv (wVar 2) (wFn fLen (wCons (wVar 0) (wNil))))))) (gN 3)
def w__law_cell_5 : MTS :=
    wRet (wOp mFdiv (wOp mMod (wOp mPow (wOp mMod (wVar 3) (wCon (.int 2147483647))) (wCon (.int 5))) (wCon (.int 2147483647))) (wCon (.int 7)))
def w__law_cell_4 : MTS :=
    wSeq (wIf (wTst (wOp (mGt) (wFn fLen (wCons (wVar 0) (wNil))) (wCon (.int 0))))
     (w__law_cell_4a_0)
     (wNext))
    (w__law_cell_5)
def w__law_cell_3 : MTS :=
    wSeq (wIf (wAndT (wTst (wOp (mGt) (wFn fLen (wCons (wVar 0) (wNil))) (wCon (.int 0)))) (wAndT (wTst (wOp (mGe) (wOp mIx (wVar 0) (wOp mMod (wVar 2) (wFn fLen (wCons (wVar 0) (wNil))))) (wOp mPow (wCon (.int 10)) (wCon (.int 18))))) (wTst (wOp (mLt) (wOp mFdiv (wVar 2) (wFn fLen (wCons (wVar 0) (wNil)))) (wCon (.int 60))))))
     (w__law_cell_3a_0)
     (wNext))
    (w__law_cell_4)
def w__law_cell_2 : MTS :=
    wSeq (wAsg (wOp mAdd (wOp mMul (wOp mMul (wCon (.int 31)) (wVar 2)) (wVar 2)) (wOp mMul (wCon (.int 7919)) (wVar 2))) (gN 3))
    (w__law_cell_3)
def w__law_cell_1 : MTS :=
    wSeq (wAsg (wOp mIx (wVar 1) (wCon (.int 0))) (gN 2))
    (w__law_cell_2)
def w__law_cell : MTS :=
    wSeq (wAsgSub (wOp mAdd (wOp mIx (wVar 1) (wCon (.int 0))) (wCon (.int 1))) (wVar 1) (wCon (.int 0)))
    (w__law_cell_1)
def r__law_cell : MSp := runM ["cells", "spot", "k", "base", "own", "turn"] 2 (w__law_cell)
def w__law_told_1a_0 (lam : M) (tl : MH → KM → KM → Prop) : MTS :=
    wDrop (wBm kAppend (wVar 2) (wCons (wDeed lam tl) (wNil)))
def w__law_told_1b_0 (lam : M) (tl : MH → KM → KM → Prop) : MTS :=
    wAsg (wVar 3) (gN 1)
def w__law_told_2a_0 (lam : M) (tl : MH → KM → KM → Prop) : MTS :=
    wRet (wVar 2)
def w__law_told_10a_0 (lam : M) (tl : MH → KM → KM → Prop) : MTS :=
    wRet (wTup (wCons (wCon (.str "other")) (wNil)))
def w__law_told_11a_0 (lam : M) (tl : MH → KM → KM → Prop) : MTS :=
    wRet (wTup (wCons (wOp mIx (wLst (wCons (wCon (.str "bag")) (wCons (wCon (.str "row")) (wNil)))) (wOp mSub (wVar 6) (wCon (.int 2)))) (wCons (wXf xcs "position" (wVar 1)) (wNil))))
def w__law_told_12a_0 (lam : M) (tl : MH → KM → KM → Prop) : MTS :=
    wRet (wTup (wCons (wCon (.str "many")) (wCons (wXf xcs "limit" (wVar 1)) (wNil))))
def w__law_told_14 (lam : M) (tl : MH → KM → KM → Prop) : MTS :=
    wRet (wTup (wCons (wOp mIx (wVar 7) (wVar 6)) (wCons (wXf xcs "value" (wVar 1)) (wNil))))
def w__law_told_13 (lam : M) (tl : MH → KM → KM → Prop) : MTS :=
    wSeq (wAsg (wLst (wCons (wCon (.str "place")) (wCons (wCon (.str "distance")) (wCons (wCon (.str "")) (wCons (wCon (.str "")) (wCons (wCon (.str "number")) (wCons (wCon (.str "stone")) (wCons (wCon (.str "")) (wCons (wCon (.str "bounds")) (wNil)))))))))) (gN 7))
    (w__law_told_14 lam tl)
def w__law_told_12 (lam : M) (tl : MH → KM → KM → Prop) : MTS :=
    wSeq (wIf (wTst (wOp (mEq) (wVar 6) (wCon (.int 6))))
     (w__law_told_12a_0 lam tl)
     (wNext))
    (w__law_told_13 lam tl)
def w__law_told_11 (lam : M) (tl : MH → KM → KM → Prop) : MTS :=
    wSeq (wIf (wOrT (wTst (wOp (mEq) (wVar 6) (wCon (.int 2)))) (wTst (wOp (mEq) (wVar 6) (wCon (.int 3)))))
     (w__law_told_11a_0 lam tl)
     (wNext))
    (w__law_told_12 lam tl)
def w__law_told_10 (lam : M) (tl : MH → KM → KM → Prop) : MTS :=
    wSeq (wIf (wOrT (wTst (wOp (mEq) (wVar 6) (wCon (.int 9)))) (wTst (wOp (mNe) (wVar 5) (wLst (wCons (wOp (mLt) (wVar 6) (wCon (.int 5))) (wCons (wOp (mLt) (wVar 6) (wCon (.int 5))) (wCons (wOp (mGt) (wVar 6) (wCon (.int 4))) (wCons (wOp (mGt) (wVar 6) (wCon (.int 4))) (wNil)))))))))
     (w__law_told_10a_0 lam tl)
     (wNext))
    (w__law_told_11 lam tl)
def w__law_told_9 (lam : M) (tl : MH → KM → KM → Prop) : MTS :=
    wSeq (wAsg (wIfE (wTst (wOp (mEq) (wBm kCount (wVar 4) (wCons (wCon (.bl true)) (wNil))) (wCon (.int 1)))) (wBm kIndex (wVar 4) (wCons (wCon (.bl true)) (wNil))) (wCon (.int 9))) (gN 6))
    (w__law_told_10 lam tl)
def w__law_told_8 (lam : M) (tl : MH → KM → KM → Prop) : MTS :=
    wSeq (wAsg (wOp mAdd (wVar 5) (wLst (wCons (wFn (fIsi xtI) (wCons (wVar 1) (wCons (wCon (.glo "WalkError")) (wNil)))) (wCons (wFn (fIsi xtI) (wCons (wVar 1) (wCons (wCon (.ty "RuntimeError")) (wNil)))) (wNil))))) (gN 5))
    (w__law_told_9 lam tl)
def w__law_told_7 (lam : M) (tl : MH → KM → KM → Prop) : MTS :=
    wSeq (wAsg (wLst (wCons (wFn (fIsi xtI) (wCons (wVar 1) (wCons (wCon (.glo "StoneError")) (wNil)))) (wCons (wFn (fIsi xtI) (wCons (wVar 1) (wCons (wCon (.ty "ValueError")) (wNil)))) (wNil)))) (gN 5))
    (w__law_told_8 lam tl)
def w__law_told_6 (lam : M) (tl : MH → KM → KM → Prop) : MTS :=
    wSeq (wAsg (wOp mAdd (wVar 4) (wLst (wCons (wFn (fIsi xtI) (wCons (wVar 1) (wCons (wCon (.glo "TooManyStones")) (wNil)))) (wCons (wFn (fIsi xtI) (wCons (wVar 1) (wCons (wCon (.glo "OutOfBounds")) (wNil)))) (wNil))))) (gN 4))
    (w__law_told_7 lam tl)
def w__law_told_5 (lam : M) (tl : MH → KM → KM → Prop) : MTS :=
    wSeq (wAsg (wOp mAdd (wVar 4) (wLst (wCons (wFn (fIsi xtI) (wCons (wVar 1) (wCons (wCon (.glo "InvalidNumber")) (wNil)))) (wCons (wFn (fIsi xtI) (wCons (wVar 1) (wCons (wCon (.glo "NoStone")) (wNil)))) (wNil))))) (gN 4))
    (w__law_told_6 lam tl)
def w__law_told_4 (lam : M) (tl : MH → KM → KM → Prop) : MTS :=
    wSeq (wAsg (wOp mAdd (wVar 4) (wLst (wCons (wFn (fIsi xtI) (wCons (wVar 1) (wCons (wCon (.glo "InvalidBag")) (wNil)))) (wCons (wFn (fIsi xtI) (wCons (wVar 1) (wCons (wCon (.glo "InvalidRow")) (wNil)))) (wNil))))) (gN 4))
    (w__law_told_5 lam tl)
def w__law_told_3 (lam : M) (tl : MH → KM → KM → Prop) : MTS :=
    wSeq (wAsg (wLst (wCons (wFn (fIsi xtI) (wCons (wVar 1) (wCons (wCon (.glo "InvalidPlace")) (wNil)))) (wCons (wFn (fIsi xtI) (wCons (wVar 1) (wCons (wCon (.glo "InvalidDistance")) (wNil)))) (wNil)))) (gN 4))
    (w__law_told_4 lam tl)
def w__law_told_2 (lam : M) (tl : MH → KM → KM → Prop) : MTS :=
    wSeq (wIf (wTst (wOp (mIs) (wVar 1) (wCon .non)))
     (w__law_told_2a_0 lam tl)
     (wNext))
    (w__law_told_3 lam tl)
def w__law_told_1 (lam : M) (tl : MH → KM → KM → Prop) : MTS :=
    wSeq (wTryT xcs xcat 3 (w__law_told_1a_0 lam tl) (w__law_told_1b_0 lam tl))
    (w__law_told_2 lam tl)
def w__law_told (lam : M) (tl : MH → KM → KM → Prop) : MTS :=
    wSeq (wPar 1 2 (wCons (wCon .non) (wCons (wLst (wNil)) (wNil))))
    (w__law_told_1 lam tl)
def r__law_told : TSp := fun tl h Q => ∀ lam, w__law_told lam tl (endD Q) (startM ["deed", "error", "found", "e", "kinds", "bases", "at", "words"] [lam]) h
def w__law_same : MTS :=
    wRet (wOp (mEq) (wFn fRep (wCons (wVar 0) (wNil))) (wFn fRep (wCons (wOp mMul (wLst (wCons (wVar 1) (wNil))) (wFn fLen (wCons (wVar 0) (wNil)))) (wNil))))
def r__law_same : MSp := runM ["found", "due"] 2 (w__law_same)
def w__law_whole_5 : MTS :=
    wRet (wOp mIx (wOp mAdd (wVar 6) (wLst (wCons (wOp mMul (wVar 4) (wVar 4)) (wNil)))) (wOp mMod (wVar 2) (wCon (.int 8))))
def w__law_whole_4 : MTS :=
    wSeq (wAsg (wLst (wCons (wOp mSub (wOp mMod (wOp mFdiv (wVar 2) (wCon (.int 8))) (wCon (.int 9))) (wCon (.int 4))) (wCons (wVar 2) (wCons (wOp mSub (wCon (.int 0)) (wVar 2)) (wCons (wVar 4) (wCons (wVar 5) (wCons (wVar 5) (wCons (wCon (.int 0)) (wNil))))))))) (gN 6))
    (w__law_whole_5)
def w__law_whole_3 : MTS :=
    wSeq (wAsg (wOp mSub (wOp mAdd (wOp mMul (wOp mIx (wLst (wCons (wOp mPow (wCon (.int 10)) (wCon (.int 30))) (wCons (wOp mMul (wCon (.int 2)) (wOp mPow (wCon (.int 10)) (wCon (.int 30)))) (wNil)))) (wOp mMod (wOp mFdiv (wVar 2) (wCon (.int 16))) (wCon (.int 2)))) (wVar 3)) (wOp mMod (wOp mFdiv (wVar 2) (wCon (.int 32))) (wCon (.int 5)))) (wCon (.int 2))) (gN 5))
    (w__law_whole_4)
def w__law_whole_2 : MTS :=
    wSeq (wAsg (wOp mMul (wOp mMul (wOp mMul (wVar 2) (wVar 2)) (wOp mAdd (wVar 2) (wOp mPow (wCon (.int 10)) (wCon (.int 15))))) (wVar 3)) (gN 4))
    (w__law_whole_3)
def w__law_whole_1 : MTS :=
    wSeq (wAsg (wOp mIx (wLst (wCons (wCon (.int 1)) (wCons (wOp mSub (wCon (.int 0)) (wCon (.int 1))) (wNil)))) (wOp mMod (wOp mFdiv (wVar 2) (wCon (.int 8))) (wCon (.int 2)))) (gN 3))
    (w__law_whole_2)
def w__law_whole : MTS :=
    wSeq (wAsg (wCall (fun ms => r__law_cell ((fun ms ns => pick [0, 1] (ms ++ ns)) ms [])) 2 (wCons (wVar 0) (wCons (wVar 1) (wNil)))) (gN 2))
    (w__law_whole_1)
def r__law_whole : MSp := runM ["cells", "spot", "n", "turn", "great", "edge", "some"] 2 (w__law_whole)
def w__law_within_0a_0 : MTS :=
    wRet (wCon (.bl false))
def w__law_within_1 : MTS :=
    wRet (wAndV (wOrV (wOp (mIs) (wVar 1) (wCon .non)) (wOp (mLe) (wVar 1) (wVar 0))) (wOrV (wOp (mIs) (wVar 2) (wCon .non)) (wOp (mLe) (wVar 0) (wVar 2))))
def w__law_within : MTS :=
    wSeq (wIf (wOrT (wNotT (wTst (wFn (fIsi xt0) (wCons (wVar 0) (wCons (wCon (.ty "int")) (wNil)))))) (wTst (wFn (fIsi xt0) (wCons (wVar 0) (wCons (wCon (.ty "bool")) (wNil))))))
     (w__law_within_0a_0)
     (wNext))
    (w__law_within_1)
def r__law_within : MSp := runM ["thing", "under", "over"] 3 (w__law_within)
def w__law_right_0a_0 (T : Str → Addr) : MTS :=
    wRet (wCon (.bl false))
def w__law_right_1a_0 (T : Str → Addr) : MTS :=
    wRet (wCon (.bl false))
def w__law_right_2a_0 (T : Str → Addr) : MTS :=
    wRet (wCon (.bl false))
def w__law_right_4a_0 (T : Str → Addr) : MTS :=
    wRet (wCon (.bl false))
def w__law_right_6a_0 (T : Str → Addr) : MTS :=
    wRet (wCon (.bl false))
def w__law_right_9a_0 (T : Str → Addr) : MTS :=
    wRet (wCon (.bl false))
def w__law_right_13 (T : Str → Addr) : MTS :=
    wRet (wCall (fun ms => r__law_same ((fun ms ns => pick [0, 1] (ms ++ ns)) ms [])) 2 (wCons (wVar 3) (wCons (wIfE (wTst (wVar 4)) (wLst (wCons (wCon .non) (wNil))) (wTup (wCons (wCon (.str "distance")) (wCons (wVar 0) (wNil))))) (wNil))))
def w__law_right_12 (T : Str → Addr) : MTS :=
    wSeq (wDrop (wBm kAppend (wVar 3) (wCons (wLam (T "_law_right") (qLam "_law_right") r__law_told (wCallK (r_check_distance) (fun ms ns => pick [0] (ms ++ ns)) 0 1 wNil (wCons (wVar 0) (wNil)))) (wNil))))
    (w__law_right_13 T)
def w__law_right_11 (T : Str → Addr) : MTS :=
    wSeq (wAsg (wLst (wCons (wLam (T "_law_right") (qLam "_law_right") r__law_told (wCall (fun ms => r_check_distance ((fun ms ns => pick [0] (ms ++ ns)) ms [])) 1 (wCons (wVar 0) (wNil)))) (wNil))) (gN 3))
    (w__law_right_12 T)
def w__law_right_10 (T : Str → Addr) : MTS :=
    wSeq (wAsg (wCall (fun ms => r__law_within ((fun ms ns => pick [0, 1, 2] (ms ++ ns)) ms [])) 3 (wCons (wVar 0) (wCons (wOp mSub (wCon (.int 0)) (wOp mMul (wCon (.int 2)) (wOp mPow (wCon (.int 10)) (wCon (.int 30))))) (wCons (wOp mMul (wCon (.int 2)) (wOp mPow (wCon (.int 10)) (wCon (.int 30)))) (wNil))))) (gN 4))
    (w__law_right_11 T)
def w__law_right_9 (T : Str → Addr) : MTS :=
    wSeq (wIf (wNotT (wTst (wCall (fun ms => r__law_same ((fun ms ns => pick [0, 1] (ms ++ ns)) ms [])) 2 (wCons (wVar 3) (wCons (wIfE (wTst (wVar 4)) (wLst (wCons (wCon .non) (wNil))) (wTup (wCons (wCon (.str "place")) (wCons (wVar 0) (wNil))))) (wNil))))))
     (w__law_right_9a_0 T)
     (wNext))
    (w__law_right_10 T)
def w__law_right_8 (T : Str → Addr) : MTS :=
    wSeq (wDrop (wBm kAppend (wVar 3) (wCons (wLam (T "_law_right") (qLam "_law_right") r__law_told (wCallK (r_check_place) (fun ms ns => pick [0] (ms ++ ns)) 0 1 wNil (wCons (wVar 0) (wNil)))) (wNil))))
    (w__law_right_9 T)
def w__law_right_7 (T : Str → Addr) : MTS :=
    wSeq (wAsg (wLst (wCons (wLam (T "_law_right") (qLam "_law_right") r__law_told (wCall (fun ms => r_check_place ((fun ms ns => pick [0] (ms ++ ns)) ms [])) 1 (wCons (wVar 0) (wNil)))) (wNil))) (gN 3))
    (w__law_right_8 T)
def w__law_right_6 (T : Str → Addr) : MTS :=
    wSeq (wIf (wNotT (wTst (wCall (fun ms => r__law_same ((fun ms ns => pick [0, 1] (ms ++ ns)) ms [])) 2 (wCons (wLst (wCons (wCall (fun ms => r_is_place ((fun ms ns => pick [0] (ms ++ ns)) ms [])) 1 (wCons (wVar 0) (wNil))) (wCons (wCallK (r_is_place) (fun ms ns => pick [0] (ms ++ ns)) 0 1 wNil (wCons (wVar 0) (wNil))) (wNil)))) (wCons (wVar 4) (wNil))))))
     (w__law_right_6a_0 T)
     (wNext))
    (w__law_right_7 T)
def w__law_right_5 (T : Str → Addr) : MTS :=
    wSeq (wAsg (wCall (fun ms => r__law_within ((fun ms ns => pick [0, 1, 2] (ms ++ ns)) ms [])) 3 (wCons (wVar 0) (wCons (wOp mSub (wCon (.int 0)) (wOp mPow (wCon (.int 10)) (wCon (.int 30)))) (wCons (wOp mPow (wCon (.int 10)) (wCon (.int 30))) (wNil))))) (gN 4))
    (w__law_right_6 T)
def w__law_right_4 (T : Str → Addr) : MTS :=
    wSeq (wIf (wNotT (wTst (wCall (fun ms => r__law_same ((fun ms ns => pick [0, 1] (ms ++ ns)) ms [])) 2 (wCons (wVar 3) (wCons (wCall (fun ms => r__law_within ((fun ms ns => pick [0, 1, 2] (ms ++ ns)) ms [])) 3 (wCons (wVar 0) (wCons (wVar 1) (wCons (wVar 2) (wNil))))) (wNil))))))
     (w__law_right_4a_0 T)
     (wNext))
    (w__law_right_5 T)
def w__law_right_3 (T : Str → Addr) : MTS :=
    wSeq (wAsg (wLst (wCons (wCallK (r_is_integer) (fun ms ns => pick [0, 2, 1] (ms ++ ns)) 0 3 wNil (wCons (wVar 0) (wCons (wVar 2) (wCons (wVar 1) (wNil))))) (wNil))) (gN 3))
    (w__law_right_4 T)
def w__law_right_2 (T : Str → Addr) : MTS :=
    wSeq (wIf (wNotT (wTst (wCall (fun ms => r__law_same ((fun ms ns => pick [0, 1] (ms ++ ns)) ms [])) 2 (wCons (wLst (wCons (wCallK (r_is_integer) (fun ms ns => pick [0, 1, 2] (ms ++ ([.non] ++ ns))) 1 1 (wCons (wVar 0) (wNil)) (wCons (wVar 2) (wNil))) (wNil))) (wCons (wCall (fun ms => r__law_within ((fun ms ns => pick [0, 1, 2] (ms ++ ns)) ms [])) 3 (wCons (wVar 0) (wCons (wCon .non) (wCons (wVar 2) (wNil))))) (wNil))))))
     (w__law_right_2a_0 T)
     (wNext))
    (w__law_right_3 T)
def w__law_right_1 (T : Str → Addr) : MTS :=
    wSeq (wIf (wNotT (wTst (wCall (fun ms => r__law_same ((fun ms ns => pick [0, 1] (ms ++ ns)) ms [])) 2 (wCons (wLst (wCons (wCallK (r_is_integer) (fun ms ns => pick [0, 2, 1] (ms ++ ([.non] ++ ns))) 1 1 (wCons (wVar 0) (wNil)) (wCons (wVar 1) (wNil))) (wNil))) (wCons (wCall (fun ms => r__law_within ((fun ms ns => pick [0, 1, 2] (ms ++ ns)) ms [])) 3 (wCons (wVar 0) (wCons (wVar 1) (wCons (wCon .non) (wNil))))) (wNil))))))
     (w__law_right_1a_0 T)
     (wNext))
    (w__law_right_2 T)
def w__law_right (T : Str → Addr) : MTS :=
    wSeq (wIf (wNotT (wTst (wCall (fun ms => r__law_same ((fun ms ns => pick [0, 1] (ms ++ ns)) ms [])) 2 (wCons (wLst (wCons (wCall (fun ms => r_is_integer ((fun ms ns => pick [0, 1, 2] (ms ++ ([.non, .non] ++ ns))) ms [])) 1 (wCons (wVar 0) (wNil))) (wNil))) (wCons (wCall (fun ms => r__law_within ((fun ms ns => pick [0, 1, 2] (ms ++ ns)) ms [])) 3 (wCons (wVar 0) (wCons (wCon .non) (wCons (wCon .non) (wNil))))) (wNil))))))
     (w__law_right_0a_0 T)
     (wNext))
    (w__law_right_1 T)
def r__law_right (T : Str → Addr) : MSp := runM ["thing", "low", "high", "found", "fits"] 3 (w__law_right T)
def w_law_1a4a0a_0 (T : Str → Addr) : MTS :=
    wRet (wCon (.bl false))
def w_law_1a4a_0 (T : Str → Addr) : MTS :=
    wIf (wNotT (wTst (wCall (fun ms => r__law_right T ((fun ms ns => pick [0, 1, 2] (ms ++ ns)) ms [])) 3 (wCons (wVar 8) (wCons (wVar 4) (wCons (wVar 5) (wNil)))))))
       (w_law_1a4a0a_0 T)
       (wNext)
def w_law_1a_4 (T : Str → Addr) : MTS :=
    wFor (wSeqI (wTup (wCons (wVar 3) (wCons (wOp mAdd (wVar 3) (wCon (.int 1))) (wCons (wOp mSub (wVar 3) (wCon (.int 1))) (wCons (wVar 7) (wCons (wTup (wCons (wVar 3) (wNil))) (wNil)))))))) (gN 8)
      (w_law_1a4a_0 T)
def w_law_1a_3 (T : Str → Addr) : MTS :=
    wSeq (wAsg (wOp mIx (wLst (wCons (wCon .non) (wCons (wCon (.bl true)) (wCons (wCon (.bl false)) (wCons (wCon (.str "1")) (wCons (wCon (.str "")) (wCons (wTup (wNil)) (wCons (wLst (wNil)) (wCons (wDct0) (wCons (wTup (wCons (wCon (.int 1)) (wNil))) (wCons (wLst (wCons (wVar 3) (wNil))) (wNil)))))))))))) (wOp mMod (wOp mFdiv (wVar 6) (wCon (.int 9))) (wCon (.int 10)))) (gN 7))
    (w_law_1a_4 T)
def w_law_1a_2 (T : Str → Addr) : MTS :=
    wSeq (wPar 4 5 (wCons (wOp mIx (wLst (wCons (wVar 4) (wCons (wCon .non) (wCons (wVar 3) (wNil))))) (wOp mMod (wVar 6) (wCon (.int 3)))) (wCons (wOp mIx (wLst (wCons (wVar 5) (wCons (wCon .non) (wCons (wVar 3) (wNil))))) (wOp mMod (wOp mFdiv (wVar 6) (wCon (.int 3))) (wCon (.int 3)))) (wNil))))
    (w_law_1a_3 T)
def w_law_1a_1 (T : Str → Addr) : MTS :=
    wSeq (wAsg (wCall (fun ms => r__law_cell ((fun ms ns => pick [0, 1] (ms ++ ns)) ms [])) 2 (wCons (wVar 0) (wCons (wVar 1) (wNil)))) (gN 6))
    (w_law_1a_2 T)
def w_law_1a_0 (T : Str → Addr) : MTS :=
    wSeq (wAsg (wComp (wRng1 (wCons (wCon (.int 3)) (wNil))) (.one 9) (wYes) (wCall (fun ms => r__law_whole ((fun ms ns => pick [0, 1] (ms ++ ns)) ms [])) 2 (wCons (wVar 0) (wCons (wVar 1) (wNil)))) (List.map (fun p => p.2) ([("k", 9)] : List (Str × Nat)))) (gL 3 (gsCons (gN 3) (gsCons (gN 4) (gsCons (gN 5) (gsNil))))))
    (w_law_1a_1 T)
def w_law_2a0a_0 (T : Str → Addr) : MTS :=
    wRet (wCon (.bl false))
def w_law_2a1a_0 (T : Str → Addr) : MTS :=
    wRet (wCon (.bl false))
def w_law_2a_1 (T : Str → Addr) : MTS :=
    wIf (wNotT (wTst (wCall (fun ms => r__law_right T ((fun ms ns => pick [0, 1, 2] (ms ++ ns)) ms [])) 3 (wCons (wOp mSub (wVar 3) (wCon (.int 1))) (wCons (wCon (.int 0)) (wCons (wCon (.int 0)) (wNil)))))))
      (w_law_2a1a_0 T)
      (wNext)
def w_law_2a_0 (T : Str → Addr) : MTS :=
    wSeq (wIf (wOrT (wNotT (wTst (wCall (fun ms => r__law_right T ((fun ms ns => pick [0, 1, 2] (ms ++ ns)) ms [])) 3 (wCons (wVar 3) (wCons (wCon .non) (wCons (wCon (.int 0)) (wNil))))))) (wNotT (wTst (wCall (fun ms => r__law_right T ((fun ms ns => pick [0, 1, 2] (ms ++ ns)) ms [])) 3 (wCons (wOp mAdd (wVar 3) (wCon (.int 1))) (wCons (wCon (.int 0)) (wCons (wCon .non) (wNil))))))))
      (w_law_2a0a_0 T)
      (wNext))
    (w_law_2a_1 T)
def w_law_3 (T : Str → Addr) : MTS :=
    wRet (wOp (mEq) (wLst (wCons (wCon (.int 1000000000000000000000000000000)) (wCons (wCon (.int 2000000000000000000000000000000)) (wNil)))) (wLst (wCons (wOp mPow (wCon (.int 10)) (wCon (.int 30))) (wCons (wOp mMul (wCon (.int 2)) (wOp mPow (wCon (.int 10)) (wCon (.int 30)))) (wNil)))))
def w_law_2 (T : Str → Addr) : MTS :=
    wSeq (wFor (wSeqI (wTup (wCons (wOp mPow (wCon (.int 10)) (wCon (.int 30))) (wCons (wOp mSub (wCon (.int 0)) (wOp mPow (wCon (.int 10)) (wCon (.int 30)))) (wCons (wOp mMul (wCon (.int 2)) (wOp mPow (wCon (.int 10)) (wCon (.int 30)))) (wCons (wOp mSub (wCon (.int 0)) (wOp mMul (wCon (.int 2)) (wOp mPow (wCon (.int 10)) (wCon (.int 30))))) (wNil))))))) (gN 3)
     (w_law_2a_0 T))
    (w_law_3 T)
def w_law_1 (T : Str → Addr) : MTS :=
    wSeq (wFor (wRng1 (wCons (wOp mAdd (wCon (.int 3)) (wFn fMin2 (wCons (wCon (.int 9)) (wCons (wFn fLen (wCons (wVar 0) (wNil))) (wNil))))) (wNil))) (gN 2)
     (w_law_1a_0 T))
    (w_law_2 T)
def w_law (T : Str → Addr) : MTS :=
    wSeq (wAsg (wLst (wCons (wCon (.int 0)) (wNil))) (gN 1))
    (w_law_1 T)
def r_law (T : Str → Addr) : MSp := runM ["script", "spot", "turn", "thing", "low", "high", "n", "odd", "one", "k"] 1 (w_law T)
theorem sc_is_integer : FnScope ["value", "least", "most"] ["value", "least", "most"] (defScope (top 14)) := ⟨by kernel_rfl, by kernel_rfl, by kernel_rfl, by decide +kernel, rfl, by decide +kernel, by decide +kernel⟩
theorem sc_is_place : FnScope ["value"] ["value"] (defScope (top 15)) := ⟨by kernel_rfl, by kernel_rfl, by kernel_rfl, by decide +kernel, rfl, by decide +kernel, by decide +kernel⟩
theorem sc_check_place : FnScope ["value"] ["value"] (defScope (top 16)) := ⟨by kernel_rfl, by kernel_rfl, by kernel_rfl, by decide +kernel, rfl, by decide +kernel, by decide +kernel⟩
theorem sc_check_distance : FnScope ["value"] ["value"] (defScope (top 17)) := ⟨by kernel_rfl, by kernel_rfl, by kernel_rfl, by decide +kernel, rfl, by decide +kernel, by decide +kernel⟩
theorem sc__law_cell : FnScope ["cells", "spot", "k", "base", "own", "turn"] ["cells", "spot"] (defScope (top 19)) := ⟨by kernel_rfl, by kernel_rfl, by kernel_rfl, by decide +kernel, rfl, by decide +kernel, by decide +kernel⟩
theorem sc__law_told : FnScope ["deed", "error", "found", "e", "kinds", "bases", "at", "words"] ["deed"] (defScope (top 20)) := ⟨by kernel_rfl, by kernel_rfl, by kernel_rfl, by decide +kernel, rfl, by decide +kernel, by decide +kernel⟩
theorem sc__law_same : FnScope ["found", "due"] ["found", "due"] (defScope (top 21)) := ⟨by kernel_rfl, by kernel_rfl, by kernel_rfl, by decide +kernel, rfl, by decide +kernel, by decide +kernel⟩
theorem sc__law_whole : FnScope ["cells", "spot", "n", "turn", "great", "edge", "some"] ["cells", "spot"] (defScope (top 22)) := ⟨by kernel_rfl, by kernel_rfl, by kernel_rfl, by decide +kernel, rfl, by decide +kernel, by decide +kernel⟩
theorem sc__law_within : FnScope ["thing", "under", "over"] ["thing", "under", "over"] (defScope (top 23)) := ⟨by kernel_rfl, by kernel_rfl, by kernel_rfl, by decide +kernel, rfl, by decide +kernel, by decide +kernel⟩
theorem sc__law_right : FnScope ["thing", "low", "high", "found", "fits"] ["thing", "low", "high"] (defScope (top 24)) := ⟨by kernel_rfl, by kernel_rfl, by kernel_rfl, by decide +kernel, rfl, by decide +kernel, by decide +kernel⟩
theorem sc_law : FnScope ["script", "spot", "turn", "thing", "low", "high", "n", "odd", "one", "k"] ["script"] (defScope (top 25)) := ⟨by kernel_rfl, by kernel_rfl, by kernel_rfl, by decide +kernel, rfl, by decide +kernel, by decide +kernel⟩
def defBodyC (s : Stmt) : List Stmt := match s with
  | .ClassDef _ _ _ b _ _ _ _ _ _ _ => b
  | _ => []
structure FX (K : PySem.W.Frag) (mg : Str → Option Value) : Prop where
  sm : ∃ o, K.lookup sysModules = some o
  d_is_integer : ∃ fd, FunD K "is_integer" "is_integer" (defArgs (top 14)) (defBody (top 14)) (defScope (top 14)) [] [("least", .non), ("most", .non)] (He.ga K "is_integer") fd
  d_is_place : ∃ fd, FunD K "is_place" "is_place" (defArgs (top 15)) (defBody (top 15)) (defScope (top 15)) [] [] (He.ga K "is_place") fd
  d_check_place : ∃ fd, FunD K "check_place" "check_place" (defArgs (top 16)) (defBody (top 16)) (defScope (top 16)) [] [] (He.ga K "check_place") fd
  d_check_distance : ∃ fd, FunD K "check_distance" "check_distance" (defArgs (top 17)) (defBody (top 17)) (defScope (top 17)) [] [] (He.ga K "check_distance") fd
  d__law_cell : ∃ fd, FunD K "_law_cell" "_law_cell" (defArgs (top 19)) (defBody (top 19)) (defScope (top 19)) [] [] (He.ga K "_law_cell") fd
  d__law_told : ∃ fd, FunD K "_law_told" "_law_told" (defArgs (top 20)) (defBody (top 20)) (defScope (top 20)) [] [] (He.ga K "_law_told") fd
  d__law_same : ∃ fd, FunD K "_law_same" "_law_same" (defArgs (top 21)) (defBody (top 21)) (defScope (top 21)) [] [] (He.ga K "_law_same") fd
  d__law_whole : ∃ fd, FunD K "_law_whole" "_law_whole" (defArgs (top 22)) (defBody (top 22)) (defScope (top 22)) [] [] (He.ga K "_law_whole") fd
  d__law_within : ∃ fd, FunD K "_law_within" "_law_within" (defArgs (top 23)) (defBody (top 23)) (defScope (top 23)) [] [] (He.ga K "_law_within") fd
  d__law_right : ∃ fd, FunD K "_law_right" "_law_right" (defArgs (top 24)) (defBody (top 24)) (defScope (top 24)) [] [] (He.ga K "_law_right") fd
  d_law : ∃ fd, FunD K "law" "law" (defArgs (top 25)) (defBody (top 25)) (defScope (top 25)) [] [] (He.ga K "law") fd
  g_InvalidBag : mg "InvalidBag" = some (.ref (He.ga K "InvalidBag"))
  g_InvalidDistance : mg "InvalidDistance" = some (.ref (He.ga K "InvalidDistance"))
  g_InvalidNumber : mg "InvalidNumber" = some (.ref (He.ga K "InvalidNumber"))
  g_InvalidPlace : mg "InvalidPlace" = some (.ref (He.ga K "InvalidPlace"))
  g_InvalidRow : mg "InvalidRow" = some (.ref (He.ga K "InvalidRow"))
  g_NoStone : mg "NoStone" = some (.ref (He.ga K "NoStone"))
  g_OutOfBounds : mg "OutOfBounds" = some (.ref (He.ga K "OutOfBounds"))
  g_StoneError : mg "StoneError" = some (.ref (He.ga K "StoneError"))
  g_TooManyStones : mg "TooManyStones" = some (.ref (He.ga K "TooManyStones"))
  g_WalkError : mg "WalkError" = some (.ref (He.ga K "WalkError"))
  g__law_cell : mg "_law_cell" = some (.ref (He.ga K "_law_cell"))
  g__law_right : mg "_law_right" = some (.ref (He.ga K "_law_right"))
  g__law_same : mg "_law_same" = some (.ref (He.ga K "_law_same"))
  g__law_told : mg "_law_told" = some (.ref (He.ga K "_law_told"))
  g__law_whole : mg "_law_whole" = some (.ref (He.ga K "_law_whole"))
  g__law_within : mg "_law_within" = some (.ref (He.ga K "_law_within"))
  g_check_distance : mg "check_distance" = some (.ref (He.ga K "check_distance"))
  g_check_place : mg "check_place" = some (.ref (He.ga K "check_place"))
  g_is_integer : mg "is_integer" = some (.ref (He.ga K "is_integer"))
  g_is_place : mg "is_place" = some (.ref (He.ga K "is_place"))
  g_law : mg "law" = some (.ref (He.ga K "law"))
  z_RuntimeError : mg "RuntimeError" = none
  z_ValueError : mg "ValueError" = none
  z_bool : mg "bool" = none
  z_int : mg "int" = none
  z_isinstance : mg "isinstance" = none
  z_len : mg "len" = none
  z_min : mg "min" = none
  z_range : mg "range" = none
  z_repr : mg "repr" = none
  i_MAX_DISTANCE : ∃ t, mg "MAX_DISTANCE" = some (.int 2000000000000000000000000000000 t)
  i_MAX_PLACE : ∃ t, mg "MAX_PLACE" = some (.int 1000000000000000000000000000000 t)
  n_InvalidDistance : ∃ fd, FunD K "__init__" "InvalidDistance.__init__" (defArgs ((defBodyC (top 4)).getD 0 (.Pass ⟨0, 0, 0, 0⟩))) (defBody ((defBodyC (top 4)).getD 0 (.Pass ⟨0, 0, 0, 0⟩))) (defScope ((defBodyC (top 4)).getD 0 (.Pass ⟨0, 0, 0, 0⟩))) [] [] (He.fAd K ("InvalidDistance", some "__init__")) fd
  m_InvalidDistance : MkC K (He.ga K "InvalidDistance") vTail "ValueError.__new__"
  b_InvalidDistance : BaseC K (He.ga K "StoneError") "ValueError.__init__"
  f_InvalidDistance : PySem.W.findIn K (.ref (He.ga K "InvalidDistance")) "value" = some none
  a_InvalidDistance : PySem.W.findIn K (.ref (He.ga K "InvalidDistance")) "__init__" = some (some (.ref (He.fAd K ("InvalidDistance", some "__init__"))))
  t_InvalidDistance : PySem.W.typeIn K (.ref (He.fAd K ("InvalidDistance", some "__init__"))) = some (.type "function")
  n_InvalidPlace : ∃ fd, FunD K "__init__" "InvalidPlace.__init__" (defArgs ((defBodyC (top 3)).getD 0 (.Pass ⟨0, 0, 0, 0⟩))) (defBody ((defBodyC (top 3)).getD 0 (.Pass ⟨0, 0, 0, 0⟩))) (defScope ((defBodyC (top 3)).getD 0 (.Pass ⟨0, 0, 0, 0⟩))) [] [] (He.fAd K ("InvalidPlace", some "__init__")) fd
  m_InvalidPlace : MkC K (He.ga K "InvalidPlace") vTail "ValueError.__new__"
  b_InvalidPlace : BaseC K (He.ga K "StoneError") "ValueError.__init__"
  f_InvalidPlace : PySem.W.findIn K (.ref (He.ga K "InvalidPlace")) "value" = some none
  a_InvalidPlace : PySem.W.findIn K (.ref (He.ga K "InvalidPlace")) "__init__" = some (some (.ref (He.fAd K ("InvalidPlace", some "__init__"))))
  t_InvalidPlace : PySem.W.typeIn K (.ref (He.fAd K ("InvalidPlace", some "__init__"))) = some (.type "function")
  xk : ∀ C ∈ xcs, ExcK K (He.ga K C)
  xn_limit : ∀ C ∈ xcs, PySem.W.findIn K (.ref (He.ga K C)) "limit" = some none
  xn_position : ∀ C ∈ xcs, PySem.W.findIn K (.ref (He.ga K C)) "position" = some none
  xn_value : ∀ C ∈ xcs, PySem.W.findIn K (.ref (He.ga K C)) "value" = some none
  x_catch : ∀ C ∈ xcs, PySem.W.exmAny K (.ref (He.ga K C)) [.ref (He.ga K "StoneError"), .ref (He.ga K "WalkError")] = some (xcat C)
  x_isi : ∀ C ∈ xcs, ∀ x ∈ (["InvalidBag", "InvalidDistance", "InvalidNumber", "InvalidPlace", "InvalidRow", "NoStone", "OutOfBounds", "StoneError", "TooManyStones", "WalkError"] : List Str), PySem.W.kitOne K (.ref (He.ga K C)) (.ref (He.ga K x)) = xtI C (.glo x)
  x_isT : ∀ C ∈ xcs, ∀ x ∈ (["RuntimeError", "ValueError"] : List String), PySem.W.kitOne K (.ref (He.ga K C)) (.type x) = xtI C (.ty x)
theorem FX.xtI_ok {K : PySem.W.Frag} {mg : Str → Option Value} (G : FX K mg) : XtOk K xtI := by
  intro C m b h
  cases m with
  | glo x =>
    by_cases hc : C ∈ xcs ∧ x ∈ (["InvalidBag", "InvalidDistance", "InvalidNumber", "InvalidPlace", "InvalidRow", "NoStone", "OutOfBounds", "StoneError", "TooManyStones", "WalkError"] : List Str)
    · exact ⟨G.xk C hc.1, _, rfl, (G.x_isi C hc.1 x hc.2).trans h⟩
    · rw [xtI, if_neg hc] at h; cases h
  | ty x =>
    by_cases hc : C ∈ xcs ∧ x ∈ (["RuntimeError", "ValueError"] : List String)
    · exact ⟨G.xk C hc.1, _, rfl, (G.x_isT C hc.1 x hc.2).trans h⟩
    · rw [xtI, if_neg hc] at h; cases h
  | _ => cases h
theorem FX.xf_limit {K : PySem.W.Frag} {mg : Str → Option Value} (G : FX K mg) : ∀ C ∈ xcs, ExcK K (He.ga K C) ∧ PySem.W.findIn K (.ref (He.ga K C)) "limit" = some none := fun C h => ⟨G.xk C h, G.xn_limit C h⟩
theorem FX.xf_position {K : PySem.W.Frag} {mg : Str → Option Value} (G : FX K mg) : ∀ C ∈ xcs, ExcK K (He.ga K C) ∧ PySem.W.findIn K (.ref (He.ga K C)) "position" = some none := fun C h => ⟨G.xk C h, G.xn_position C h⟩
theorem FX.xf_value {K : PySem.W.Frag} {mg : Str → Option Value} (G : FX K mg) : ∀ C ∈ xcs, ExcK K (He.ga K C) ∧ PySem.W.findIn K (.ref (He.ga K C)) "value" = some none := fun C h => ⟨G.xk C h, G.xn_value C h⟩
section
variable {P : Program} {w : World} {K : PySem.W.Frag} {mg : Str → Option Value} {base : Heap}
theorem sI_InvalidDistance : FnScope ["self", "value"] ["self", "value"] (defScope ((defBodyC (top 4)).getD 0 (.Pass ⟨0, 0, 0, 0⟩))) := ⟨by kernel_rfl, by kernel_rfl, by kernel_rfl, by decide +kernel, rfl, by decide +kernel, by decide +kernel⟩
theorem FX.ini_InvalidDistance (G : FX K mg) : ∃ fd, FunD K "__init__" "InvalidDistance.__init__" (defArgs ((defBodyC (top 4)).getD 0 (.Pass ⟨0, 0, 0, 0⟩))) (defBody ((defBodyC (top 4)).getD 0 (.Pass ⟨0, 0, 0, 0⟩))) (defScope ((defBodyC (top 4)).getD 0 (.Pass ⟨0, 0, 0, 0⟩))) [] [] (He.fAd K ("InvalidDistance", some "__init__")) fd ∧ FnOk P w K mg base (L2.CX P w) 1 (He.fAd K ("InvalidDistance", some "__init__")) fd ["self", "value"] (spI (He.ga K "InvalidDistance") "value") := by
  obtain ⟨fd, D⟩ := G.n_InvalidDistance
  exact ⟨fd, D, init_ok (k := 0) famV G.m_InvalidDistance G.b_InvalidDistance D sI_InvalidDistance rfl G.g_StoneError G.f_InvalidDistance (.inl rfl) (.inl rfl) rfl⟩
theorem FX.x1_InvalidDistance (G : FX K mg) : ExMk P w K mg base 1 "InvalidDistance" "value" [] := by
  obtain ⟨fd, D, F⟩ := G.ini_InvalidDistance (P := P) (w := w) (base := base)
  exact ⟨⟨_, _, _, _, fd, _, [], [], famV, G.m_InvalidDistance, G.a_InvalidDistance, G.t_InvalidDistance, F, D.bindsN (ps := ["self", "value"]) (fun _ _ _ _ _ _ us hl => match us, hl with | [_, _], _ => rfl), .nil, fun _ _ => rfl⟩, G.g_InvalidDistance⟩
theorem sI_InvalidPlace : FnScope ["self", "value"] ["self", "value"] (defScope ((defBodyC (top 3)).getD 0 (.Pass ⟨0, 0, 0, 0⟩))) := ⟨by kernel_rfl, by kernel_rfl, by kernel_rfl, by decide +kernel, rfl, by decide +kernel, by decide +kernel⟩
theorem FX.ini_InvalidPlace (G : FX K mg) : ∃ fd, FunD K "__init__" "InvalidPlace.__init__" (defArgs ((defBodyC (top 3)).getD 0 (.Pass ⟨0, 0, 0, 0⟩))) (defBody ((defBodyC (top 3)).getD 0 (.Pass ⟨0, 0, 0, 0⟩))) (defScope ((defBodyC (top 3)).getD 0 (.Pass ⟨0, 0, 0, 0⟩))) [] [] (He.fAd K ("InvalidPlace", some "__init__")) fd ∧ FnOk P w K mg base (L2.CX P w) 1 (He.fAd K ("InvalidPlace", some "__init__")) fd ["self", "value"] (spI (He.ga K "InvalidPlace") "value") := by
  obtain ⟨fd, D⟩ := G.n_InvalidPlace
  exact ⟨fd, D, init_ok (k := 0) famV G.m_InvalidPlace G.b_InvalidPlace D sI_InvalidPlace rfl G.g_StoneError G.f_InvalidPlace (.inl rfl) (.inl rfl) rfl⟩
theorem FX.x1_InvalidPlace (G : FX K mg) : ExMk P w K mg base 1 "InvalidPlace" "value" [] := by
  obtain ⟨fd, D, F⟩ := G.ini_InvalidPlace (P := P) (w := w) (base := base)
  exact ⟨⟨_, _, _, _, fd, _, [], [], famV, G.m_InvalidPlace, G.a_InvalidPlace, G.t_InvalidPlace, F, D.bindsN (ps := ["self", "value"]) (fun _ _ _ _ _ _ us hl => match us, hl with | [_, _], _ => rfl), .nil, fun _ _ => rfl⟩, G.g_InvalidPlace⟩
theorem ok_is_integer (G : FX K mg) : ∃ fd, FunD K "is_integer" "is_integer" (defArgs (top 14)) (defBody (top 14)) (defScope (top 14)) [] [("least", .non), ("most", .non)] (He.ga K "is_integer") fd ∧ FnM P w K mg base 1 (He.ga K "is_integer") fd ["value", "least", "most"] (r_is_integer) := by
  obtain ⟨fd, D⟩ := G.d_is_integer
  refine ⟨fd, D, fnm_at (k := 0) D sc_is_integer G.sm fun A outer s H E c => ?_⟩
  exact s_cons (s_if (t_w (w_or (t_not (t_val (m_fnB (x := "isinstance") call_isiA (l_isi xt0_ok) rfl G.z_isinstance PyProof.Rows.Boot.«isinstance» (ma_cons (m_var (i := 0) rfl (by first | exact .inl rfl | exact .inr (.inl rfl) | exact .inr (.inr rfl))) (ma_cons (m_ty (x := "int") rfl G.z_int PyProof.Rows.Boot.«int») (ma_nil)))))) (w_or1 (t_val (m_fnB (x := "isinstance") call_isiA (l_isi xt0_ok) rfl G.z_isinstance PyProof.Rows.Boot.«isinstance» (ma_cons (m_var (i := 0) rfl (by first | exact .inl rfl | exact .inr (.inl rfl) | exact .inr (.inr rfl))) (ma_cons (m_ty (x := "bool") rfl G.z_bool PyProof.Rows.Boot.«bool») (ma_nil))))))))
     (s_one (s_ret (m_bl)))
     (s_nil))
    (s_one (s_ret (m_and (m_or (m_cmp op_isN l_is (m_var (i := 1) rfl (by first | exact .inl rfl | exact .inr (.inl rfl) | exact .inr (.inr rfl))) (m_non) (nomark _)) (m_and1 (m_cmp op_ge l_ge (m_var (i := 0) rfl (by first | exact .inl rfl | exact .inr (.inl rfl) | exact .inr (.inr rfl))) (m_var (i := 1) rfl (by first | exact .inl rfl | exact .inr (.inl rfl) | exact .inr (.inr rfl))) (nomark _)))) (m_and1 (m_or (m_cmp op_isN l_is (m_var (i := 2) rfl (by first | exact .inl rfl | exact .inr (.inl rfl) | exact .inr (.inr rfl))) (m_non) (nomark _)) (m_and1 (m_cmp op_le l_le (m_var (i := 0) rfl (by first | exact .inl rfl | exact .inr (.inl rfl) | exact .inr (.inr rfl))) (m_var (i := 2) rfl (by first | exact .inl rfl | exact .inr (.inl rfl) | exact .inr (.inr rfl))) (nomark _))))))))
theorem ok_is_place (G : FX K mg) : ∃ fd, FunD K "is_place" "is_place" (defArgs (top 15)) (defBody (top 15)) (defScope (top 15)) [] [] (He.ga K "is_place") fd ∧ FnM P w K mg base 2 (He.ga K "is_place") fd ["value"] (r_is_place) := by
  obtain ⟨fd, D⟩ := G.d_is_place
  obtain ⟨fd_is_integer, D_is_integer, F_is_integer⟩ := ok_is_integer (P := P) (w := w) (base := base) G
  have kb_is_integer_1_least_most := kb_all (ps := ["value", "least", "most"]) D_is_integer 1 ["least", "most"] [0, 1, 2] (fun _ _ _ _ _ _ us ws h1 h2 => match us, ws, h1, h2 with | [_], [_, _], _, _ => rfl)
  refine ⟨fd, D, fnm_at (k := 1) D sc_is_place G.sm fun A outer s H E c => ?_⟩
  exact s_one (s_ret (m_callK (x := "is_integer") (F_is_integer.mono (by decide)) c (by rfl) G.g_is_integer D_is_integer.kp kb_is_integer_1_least_most (ma_cons (m_var (i := 0) rfl (by first | exact .inl rfl | exact .inr (.inl rfl) | exact .inr (.inr rfl))) (ma_nil)) (mk_cons (m_un un_neg l_neg (m_gint (x := "MAX_PLACE") rfl G.i_MAX_PLACE.choose_spec)) (mk_cons (m_gint (x := "MAX_PLACE") rfl G.i_MAX_PLACE.choose_spec) (mk_nil)))))
theorem ok_check_place (G : FX K mg) : ∃ fd, FunD K "check_place" "check_place" (defArgs (top 16)) (defBody (top 16)) (defScope (top 16)) [] [] (He.ga K "check_place") fd ∧ FnM P w K mg base 3 (He.ga K "check_place") fd ["value"] (r_check_place) := by
  obtain ⟨fd, D⟩ := G.d_check_place
  obtain ⟨fd_is_place, D_is_place, F_is_place⟩ := ok_is_place (P := P) (w := w) (base := base) G
  have kb_is_place_1 := kb_all (ps := ["value"]) D_is_place 1 [] [0] (fun _ _ _ _ _ _ us ws h1 h2 => match us, ws, h1, h2 with | [_], [], _, _ => rfl)
  refine ⟨fd, D, fnm_at (k := 2) D sc_check_place G.sm fun A outer s H E c => ?_⟩
  exact s_one (s_if (t_not (t_val (m_call (x := "is_place") (F_is_place.mono (by decide)) c (by rfl) G.g_is_place D_is_place.kp kb_is_place_1 (ma_cons (m_var (i := 0) rfl (by first | exact .inl rfl | exact .inr (.inl rfl) | exact .inr (.inr rfl))) (ma_nil)))))
     (s_one (s_raise (x := "InvalidPlace") c (G.x1_InvalidPlace (P := P) (w := w) (base := base)) (by decide) rfl (ma_cons (m_var (i := 0) rfl (by first | exact .inl rfl | exact .inr (.inl rfl) | exact .inr (.inr rfl))) (ma_nil))))
     (s_nil))
theorem ok_check_distance (G : FX K mg) : ∃ fd, FunD K "check_distance" "check_distance" (defArgs (top 17)) (defBody (top 17)) (defScope (top 17)) [] [] (He.ga K "check_distance") fd ∧ FnM P w K mg base 3 (He.ga K "check_distance") fd ["value"] (r_check_distance) := by
  obtain ⟨fd, D⟩ := G.d_check_distance
  obtain ⟨fd_is_integer, D_is_integer, F_is_integer⟩ := ok_is_integer (P := P) (w := w) (base := base) G
  have kb_is_integer_1_least_most := kb_all (ps := ["value", "least", "most"]) D_is_integer 1 ["least", "most"] [0, 1, 2] (fun _ _ _ _ _ _ us ws h1 h2 => match us, ws, h1, h2 with | [_], [_, _], _, _ => rfl)
  refine ⟨fd, D, fnm_at (k := 2) D sc_check_distance G.sm fun A outer s H E c => ?_⟩
  exact s_one (s_if (t_not (t_val (m_callK (x := "is_integer") (F_is_integer.mono (by decide)) c (by rfl) G.g_is_integer D_is_integer.kp kb_is_integer_1_least_most (ma_cons (m_var (i := 0) rfl (by first | exact .inl rfl | exact .inr (.inl rfl) | exact .inr (.inr rfl))) (ma_nil)) (mk_cons (m_un un_neg l_neg (m_gint (x := "MAX_DISTANCE") rfl G.i_MAX_DISTANCE.choose_spec)) (mk_cons (m_gint (x := "MAX_DISTANCE") rfl G.i_MAX_DISTANCE.choose_spec) (mk_nil))))))
     (s_one (s_raise (x := "InvalidDistance") c (G.x1_InvalidDistance (P := P) (w := w) (base := base)) (by decide) rfl (ma_cons (m_var (i := 0) rfl (by first | exact .inl rfl | exact .inr (.inl rfl) | exact .inr (.inr rfl))) (ma_nil))))
     (s_nil))
theorem ok__law_cell (G : FX K mg) : ∃ fd, FunD K "_law_cell" "_law_cell" (defArgs (top 19)) (defBody (top 19)) (defScope (top 19)) [] [] (He.ga K "_law_cell") fd ∧ FnM P w K mg base 1 (He.ga K "_law_cell") fd ["cells", "spot"] (r__law_cell) := by
  obtain ⟨fd, D⟩ := G.d__law_cell
  refine ⟨fd, D, fnm_at (k := 0) D sc__law_cell G.sm fun A outer s H E c => ?_⟩
  exact s_cons (s_setSub (m_op op_addA l_add (m_ix ix_seq l_ix (m_var (i := 1) rfl (by first | exact .inl rfl | exact .inr (.inl rfl) | exact .inr (.inr rfl))) (m_int) (fun _ _ => rfl)) (m_int)) (m_var (i := 1) rfl (by first | exact .inl rfl | exact .inr (.inl rfl) | exact .inr (.inr rfl))) (m_int))
    (s_cons (s_set (i := 2) c.nd rfl (by first | exact .inl rfl | exact .inr rfl) (m_ix ix_seq l_ix (m_var (i := 1) rfl (by first | exact .inl rfl | exact .inr (.inl rfl) | exact .inr (.inr rfl))) (m_int) (fun _ _ => rfl)) (.inl rfl))
    (s_cons (s_set (i := 3) c.nd rfl (by first | exact .inl rfl | exact .inr rfl) (m_op op_addA l_add (m_op op_mulA l_mul (m_op op_mulA l_mul (m_int) (m_var (i := 2) rfl (by first | exact .inl rfl | exact .inr (.inl rfl) | exact .inr (.inr rfl)))) (m_var (i := 2) rfl (by first | exact .inl rfl | exact .inr (.inl rfl) | exact .inr (.inr rfl)))) (m_op op_mulA l_mul (m_int) (m_var (i := 2) rfl (by first | exact .inl rfl | exact .inr (.inl rfl) | exact .inr (.inr rfl))))) (.inl rfl))
    (s_cons (s_if (t_w (w_and (t_cmp op_gt l_gt (m_fnB (x := "len") call_len l_len rfl G.z_len PyProof.Rows.Boot.«len» (ma_cons (m_var (i := 0) rfl (by first | exact .inl rfl | exact .inr (.inl rfl) | exact .inr (.inr rfl))) (ma_nil))) (m_int) (nomark _)) (w_and (t_cmp op_ge l_ge (m_ix ix_seq l_ix (m_var (i := 0) rfl (by first | exact .inl rfl | exact .inr (.inl rfl) | exact .inr (.inr rfl))) (m_op op_modN l_mod (m_var (i := 2) rfl (by first | exact .inl rfl | exact .inr (.inl rfl) | exact .inr (.inr rfl))) (m_fnB (x := "len") call_len l_len rfl G.z_len PyProof.Rows.Boot.«len» (ma_cons (m_var (i := 0) rfl (by first | exact .inl rfl | exact .inr (.inl rfl) | exact .inr (.inr rfl))) (ma_nil)))) (fun _ _ => rfl)) (m_op op_powA l_pow (m_int) (m_int)) (nomark _)) (w_and1 (t_cmp op_lt l_lt (m_op op_fdivA l_fdiv (m_var (i := 2) rfl (by first | exact .inl rfl | exact .inr (.inl rfl) | exact .inr (.inr rfl))) (m_fnB (x := "len") call_len l_len rfl G.z_len PyProof.Rows.Boot.«len» (ma_cons (m_var (i := 0) rfl (by first | exact .inl rfl | exact .inr (.inl rfl) | exact .inr (.inr rfl))) (ma_nil)))) (m_int) (nomark _))))))
     (s_cons (s_set (i := 4) c.nd rfl (by first | exact .inl rfl | exact .inr rfl) (m_ix ix_seq l_ix (m_var (i := 0) rfl (by first | exact .inl rfl | exact .inr (.inl rfl) | exact .inr (.inr rfl))) (m_op op_modN l_mod (m_var (i := 2) rfl (by first | exact .inl rfl | exact .inr (.inl rfl) | exact .inr (.inr rfl))) (m_fnB (x := "len") call_len l_len rfl G.z_len PyProof.Rows.Boot.«len» (ma_cons (m_var (i := 0) rfl (by first | exact .inl rfl | exact .inr (.inl rfl) | exact .inr (.inr rfl))) (ma_nil)))) (fun _ _ => rfl)) (.inl rfl))
     (s_cons (s_for c (i_rng1 rfl G.z_range (ma_cons (m_op op_fdivA l_fdiv (m_var (i := 2) rfl (by first | exact .inl rfl | exact .inr (.inl rfl) | exact .inr (.inr rfl))) (m_fnB (x := "len") call_len l_len rfl G.z_len PyProof.Rows.Boot.«len» (ma_cons (m_var (i := 0) rfl (by first | exact .inl rfl | exact .inr (.inl rfl) | exact .inr (.inr rfl))) (ma_nil)))) (ma_nil))) (g_name c.nd (i := 5) rfl (by first | exact .inl rfl | exact .inr rfl) (.inl rfl))
      (s_one (s_set (i := 4) c.nd rfl (by first | exact .inl rfl | exact .inr rfl) (m_op op_fdivA l_fdiv (m_var (i := 4) rfl (by first | exact .inl rfl | exact .inr (.inl rfl) | exact .inr (.inr rfl))) (m_int)) (.inl rfl))))
     (s_one (s_if (t_cmp op_gt l_gt (m_var (i := 4) rfl (by first | exact .inl rfl | exact .inr (.inl rfl) | exact .inr (.inr rfl))) (m_int) (nomark _))
      (s_one (s_ret (m_op op_modN l_mod (m_var (i := 4) rfl (by first | exact .inl rfl | exact .inr (.inl rfl) | exact .inr (.inr rfl))) (m_int))))
      (s_nil)))))
     (s_nil))
    (s_cons (s_if (t_cmp op_gt l_gt (m_fnB (x := "len") call_len l_len rfl G.z_len PyProof.Rows.Boot.«len» (ma_cons (m_var (i := 0) rfl (by first | exact .inl rfl | exact .inr (.inl rfl) | exact .inr (.inr rfl))) (ma_nil))) (m_int) (nomark _))
     (s_one (s_set (i := 3) c.nd rfl (by first | exact .inl rfl | exact .inr rfl) (m_op op_addA l_add (m_var (i := 3) rfl (by first | exact .inl rfl | exact .inr (.inl rfl) | exact .inr (.inr rfl))) (m_op op_mulA l_mul (m_op op_modN l_mod (m_ix ix_seq l_ix (m_var (i := 0) rfl (by first | exact .inl rfl | exact .inr (.inl rfl) | exact .inr (.inr rfl))) (m_op op_modN l_mod (m_var (i := 2) rfl (by first | exact .inl rfl | exact .inr (.inl rfl) | exact .inr (.inr rfl))) (m_fnB (x := "len") call_len l_len rfl G.z_len PyProof.Rows.Boot.«len» (ma_cons (m_var (i := 0) rfl (by first | exact .inl rfl | exact .inr (.inl rfl) | exact .inr (.inr rfl))) (ma_nil)))) (fun _ _ => rfl)) (m_int)) (m_op op_addA l_add (m_int) (m_op op_fdivA l_fdiv (m_var (i := 2) rfl (by first | exact .inl rfl | exact .inr (.inl rfl) | exact .inr (.inr rfl))) (m_fnB (x := "len") call_len l_len rfl G.z_len PyProof.Rows.Boot.«len» (ma_cons (m_var (i := 0) rfl (by first | exact .inl rfl | exact .inr (.inl rfl) | exact .inr (.inr rfl))) (ma_nil))))))) (.inl rfl)))
     (s_nil))
    (s_one (s_ret (m_op op_fdivA l_fdiv (m_op op_modN l_mod (m_op op_powA l_pow (m_op op_modN l_mod (m_var (i := 3) rfl (by first | exact .inl rfl | exact .inr (.inl rfl) | exact .inr (.inr rfl))) (m_int)) (m_int)) (m_int)) (m_int))))))))
theorem told_ok {X : Cx} {k : Nat} {cdv : Value} (sm : ∃ o, X.K.lookup sysModules = some o) (G : FX X.K X.mg) : ToldM X ["deed", "error", "found", "e", "kinds", "bases", "at", "words"] "_law_told" (defScope (top 20)) (He.ga X.K "_law_told") cdv (defBody (top 20)) "deed" k r__law_told := by
  intro f c' q σ bs ms s H tl hr hact
  have c := cm_told (X := X) sm sc__law_told.nd hr
  refine ⟨w__law_told (.lam f c' q σ bs ms) tl, ?_, fun h Q z => z _⟩
  exact s_cons (s_par (i := 1) (j := 2) c.calm c.nd rfl rfl (by decide) rfl rfl (ma_cons (m_non) (ma_cons (m_lst (ma_nil)) (ma_nil))) rfl)
    (s_cons (s_tryT (i := 3) (n := "e") (cs := xcs) (catches := xcat) (wb := w__law_told_1a_0 (.lam f c' q σ bs ms) tl) (ws := w__law_told_1b_0 (.lam f c' q σ bs ms) tl) G.x_catch (test_two (x := "StoneError") (y := "WalkError") ⟨rfl, rfl, .inl G.g_StoneError⟩ ⟨rfl, rfl, .inl G.g_WalkError⟩) c rfl rfl rfl rfl rfl (fun W' pn xe c1 =>
     s_one (s_expr (m_bm PySem.F.slot_list_append PySem.F.type_list_append mt_append l_append (m_var (i := 2) rfl (by first | exact .inl rfl | exact .inr (.inl rfl) | exact .inr (.inr rfl))) (ma_cons (hact _ _ _ _ _ c1.tk) (ma_nil)))))
     (fun a pn => s_one (s_set (i := 1) c.nd rfl (by first | exact .inl rfl | exact .inr rfl) (m_var (i := 3) rfl (by first | exact .inl rfl | exact .inr (.inl rfl) | exact .inr (.inr rfl))) (.inl rfl))))
    (s_cons (s_if (t_cmp op_isN l_is (m_var (i := 1) rfl (by first | exact .inl rfl | exact .inr (.inl rfl) | exact .inr (.inr rfl))) (m_non) (nomark _))
     (s_one (s_ret (m_var (i := 2) rfl (by first | exact .inl rfl | exact .inr (.inl rfl) | exact .inr (.inr rfl)))))
     (s_nil))
    (s_cons (s_set (i := 4) c.nd rfl (by first | exact .inl rfl | exact .inr rfl) (m_lst (ma_cons (m_fnB (x := "isinstance") call_isiA (l_isi G.xtI_ok) rfl G.z_isinstance PyProof.Rows.Boot.«isinstance» (ma_cons (m_var (i := 1) rfl (by first | exact .inl rfl | exact .inr (.inl rfl) | exact .inr (.inr rfl))) (ma_cons (m_cls (x := "InvalidPlace") rfl G.g_InvalidPlace) (ma_nil)))) (ma_cons (m_fnB (x := "isinstance") call_isiA (l_isi G.xtI_ok) rfl G.z_isinstance PyProof.Rows.Boot.«isinstance» (ma_cons (m_var (i := 1) rfl (by first | exact .inl rfl | exact .inr (.inl rfl) | exact .inr (.inr rfl))) (ma_cons (m_cls (x := "InvalidDistance") rfl G.g_InvalidDistance) (ma_nil)))) (ma_nil)))) (.inl rfl))
    (s_cons (s_set (i := 4) c.nd rfl (by first | exact .inl rfl | exact .inr rfl) (m_op op_addA l_add (m_var (i := 4) rfl (by first | exact .inl rfl | exact .inr (.inl rfl) | exact .inr (.inr rfl))) (m_lst (ma_cons (m_fnB (x := "isinstance") call_isiA (l_isi G.xtI_ok) rfl G.z_isinstance PyProof.Rows.Boot.«isinstance» (ma_cons (m_var (i := 1) rfl (by first | exact .inl rfl | exact .inr (.inl rfl) | exact .inr (.inr rfl))) (ma_cons (m_cls (x := "InvalidBag") rfl G.g_InvalidBag) (ma_nil)))) (ma_cons (m_fnB (x := "isinstance") call_isiA (l_isi G.xtI_ok) rfl G.z_isinstance PyProof.Rows.Boot.«isinstance» (ma_cons (m_var (i := 1) rfl (by first | exact .inl rfl | exact .inr (.inl rfl) | exact .inr (.inr rfl))) (ma_cons (m_cls (x := "InvalidRow") rfl G.g_InvalidRow) (ma_nil)))) (ma_nil))))) (.inl rfl))
    (s_cons (s_set (i := 4) c.nd rfl (by first | exact .inl rfl | exact .inr rfl) (m_op op_addA l_add (m_var (i := 4) rfl (by first | exact .inl rfl | exact .inr (.inl rfl) | exact .inr (.inr rfl))) (m_lst (ma_cons (m_fnB (x := "isinstance") call_isiA (l_isi G.xtI_ok) rfl G.z_isinstance PyProof.Rows.Boot.«isinstance» (ma_cons (m_var (i := 1) rfl (by first | exact .inl rfl | exact .inr (.inl rfl) | exact .inr (.inr rfl))) (ma_cons (m_cls (x := "InvalidNumber") rfl G.g_InvalidNumber) (ma_nil)))) (ma_cons (m_fnB (x := "isinstance") call_isiA (l_isi G.xtI_ok) rfl G.z_isinstance PyProof.Rows.Boot.«isinstance» (ma_cons (m_var (i := 1) rfl (by first | exact .inl rfl | exact .inr (.inl rfl) | exact .inr (.inr rfl))) (ma_cons (m_cls (x := "NoStone") rfl G.g_NoStone) (ma_nil)))) (ma_nil))))) (.inl rfl))
    (s_cons (s_set (i := 4) c.nd rfl (by first | exact .inl rfl | exact .inr rfl) (m_op op_addA l_add (m_var (i := 4) rfl (by first | exact .inl rfl | exact .inr (.inl rfl) | exact .inr (.inr rfl))) (m_lst (ma_cons (m_fnB (x := "isinstance") call_isiA (l_isi G.xtI_ok) rfl G.z_isinstance PyProof.Rows.Boot.«isinstance» (ma_cons (m_var (i := 1) rfl (by first | exact .inl rfl | exact .inr (.inl rfl) | exact .inr (.inr rfl))) (ma_cons (m_cls (x := "TooManyStones") rfl G.g_TooManyStones) (ma_nil)))) (ma_cons (m_fnB (x := "isinstance") call_isiA (l_isi G.xtI_ok) rfl G.z_isinstance PyProof.Rows.Boot.«isinstance» (ma_cons (m_var (i := 1) rfl (by first | exact .inl rfl | exact .inr (.inl rfl) | exact .inr (.inr rfl))) (ma_cons (m_cls (x := "OutOfBounds") rfl G.g_OutOfBounds) (ma_nil)))) (ma_nil))))) (.inl rfl))
    (s_cons (s_set (i := 5) c.nd rfl (by first | exact .inl rfl | exact .inr rfl) (m_lst (ma_cons (m_fnB (x := "isinstance") call_isiA (l_isi G.xtI_ok) rfl G.z_isinstance PyProof.Rows.Boot.«isinstance» (ma_cons (m_var (i := 1) rfl (by first | exact .inl rfl | exact .inr (.inl rfl) | exact .inr (.inr rfl))) (ma_cons (m_cls (x := "StoneError") rfl G.g_StoneError) (ma_nil)))) (ma_cons (m_fnB (x := "isinstance") call_isiA (l_isi G.xtI_ok) rfl G.z_isinstance PyProof.Rows.Boot.«isinstance» (ma_cons (m_var (i := 1) rfl (by first | exact .inl rfl | exact .inr (.inl rfl) | exact .inr (.inr rfl))) (ma_cons (m_ty (x := "ValueError") rfl G.z_ValueError PyProof.Rows.Boot.«ValueError») (ma_nil)))) (ma_nil)))) (.inl rfl))
    (s_cons (s_set (i := 5) c.nd rfl (by first | exact .inl rfl | exact .inr rfl) (m_op op_addA l_add (m_var (i := 5) rfl (by first | exact .inl rfl | exact .inr (.inl rfl) | exact .inr (.inr rfl))) (m_lst (ma_cons (m_fnB (x := "isinstance") call_isiA (l_isi G.xtI_ok) rfl G.z_isinstance PyProof.Rows.Boot.«isinstance» (ma_cons (m_var (i := 1) rfl (by first | exact .inl rfl | exact .inr (.inl rfl) | exact .inr (.inr rfl))) (ma_cons (m_cls (x := "WalkError") rfl G.g_WalkError) (ma_nil)))) (ma_cons (m_fnB (x := "isinstance") call_isiA (l_isi G.xtI_ok) rfl G.z_isinstance PyProof.Rows.Boot.«isinstance» (ma_cons (m_var (i := 1) rfl (by first | exact .inl rfl | exact .inr (.inl rfl) | exact .inr (.inr rfl))) (ma_cons (m_ty (x := "RuntimeError") rfl G.z_RuntimeError PyProof.Rows.Boot.«RuntimeError») (ma_nil)))) (ma_nil))))) (.inl rfl))
    (s_cons (s_set (i := 6) c.nd rfl (by first | exact .inl rfl | exact .inr rfl) (m_ifE (t_cmp (op_eqA c.rm.r.units) l_eq (m_bm PySem.F.slot_list_count PySem.F.type_list_count mt_countF l_count (m_var (i := 4) rfl (by first | exact .inl rfl | exact .inr (.inl rfl) | exact .inr (.inr rfl))) (ma_cons (m_bl) (ma_nil))) (m_int) (nomark _)) (m_bm PySem.F.slot_list_index PySem.F.type_list_index mt_index l_index (m_var (i := 4) rfl (by first | exact .inl rfl | exact .inr (.inl rfl) | exact .inr (.inr rfl))) (ma_cons (m_bl) (ma_nil))) (m_int)) (.inl rfl))
    (s_cons (s_if (t_w (w_or (t_cmp (op_eqA c.rm.r.units) l_eq (m_var (i := 6) rfl (by first | exact .inl rfl | exact .inr (.inl rfl) | exact .inr (.inr rfl))) (m_int) (nomark _)) (w_or1 (t_cmp (op_neA c.rm.r.units) l_ne (m_var (i := 5) rfl (by first | exact .inl rfl | exact .inr (.inl rfl) | exact .inr (.inr rfl))) (m_lst (ma_cons (m_cmp op_lt l_lt (m_var (i := 6) rfl (by first | exact .inl rfl | exact .inr (.inl rfl) | exact .inr (.inr rfl))) (m_int) (nomark _)) (ma_cons (m_cmp op_lt l_lt (m_var (i := 6) rfl (by first | exact .inl rfl | exact .inr (.inl rfl) | exact .inr (.inr rfl))) (m_int) (nomark _)) (ma_cons (m_cmp op_gt l_gt (m_var (i := 6) rfl (by first | exact .inl rfl | exact .inr (.inl rfl) | exact .inr (.inr rfl))) (m_int) (nomark _)) (ma_cons (m_cmp op_gt l_gt (m_var (i := 6) rfl (by first | exact .inl rfl | exact .inr (.inl rfl) | exact .inr (.inr rfl))) (m_int) (nomark _)) (ma_nil)))))) (nomark _)))))
     (s_one (s_ret (m_tup (ma_cons (m_str) (ma_nil)))))
     (s_nil))
    (s_cons (s_if (t_w (w_or (t_cmp (op_eqA c.rm.r.units) l_eq (m_var (i := 6) rfl (by first | exact .inl rfl | exact .inr (.inl rfl) | exact .inr (.inr rfl))) (m_int) (nomark _)) (w_or1 (t_cmp (op_eqA c.rm.r.units) l_eq (m_var (i := 6) rfl (by first | exact .inl rfl | exact .inr (.inl rfl) | exact .inr (.inr rfl))) (m_int) (nomark _)))))
     (s_one (s_ret (m_tup (ma_cons (m_ix ix_seq l_ix (m_lst (ma_cons (m_str) (ma_cons (m_str) (ma_nil)))) (m_op op_sub l_sub (m_var (i := 6) rfl (by first | exact .inl rfl | exact .inr (.inl rfl) | exact .inr (.inr rfl))) (m_int)) (fun _ _ => rfl)) (ma_cons (m_xfld G.xf_position (m_var (i := 1) rfl (by first | exact .inl rfl | exact .inr (.inl rfl) | exact .inr (.inr rfl)))) (ma_nil))))))
     (s_nil))
    (s_cons (s_if (t_cmp (op_eqA c.rm.r.units) l_eq (m_var (i := 6) rfl (by first | exact .inl rfl | exact .inr (.inl rfl) | exact .inr (.inr rfl))) (m_int) (nomark _))
     (s_one (s_ret (m_tup (ma_cons (m_str) (ma_cons (m_xfld G.xf_limit (m_var (i := 1) rfl (by first | exact .inl rfl | exact .inr (.inl rfl) | exact .inr (.inr rfl)))) (ma_nil))))))
     (s_nil))
    (s_cons (s_set (i := 7) c.nd rfl (by first | exact .inl rfl | exact .inr rfl) (m_lst (ma_cons (m_str) (ma_cons (m_str) (ma_cons (m_str) (ma_cons (m_str) (ma_cons (m_str) (ma_cons (m_str) (ma_cons (m_str) (ma_cons (m_str) (ma_nil)))))))))) (.inl rfl))
    (s_one (s_ret (m_tup (ma_cons (m_ix ix_seq l_ix (m_var (i := 7) rfl (by first | exact .inl rfl | exact .inr (.inl rfl) | exact .inr (.inr rfl))) (m_var (i := 6) rfl (by first | exact .inl rfl | exact .inr (.inl rfl) | exact .inr (.inr rfl))) (fun _ _ => rfl)) (ma_cons (m_xfld G.xf_value (m_var (i := 1) rfl (by first | exact .inl rfl | exact .inr (.inl rfl) | exact .inr (.inr rfl)))) (ma_nil)))))))))))))))))))
theorem ok__law_same (G : FX K mg) : ∃ fd, FunD K "_law_same" "_law_same" (defArgs (top 21)) (defBody (top 21)) (defScope (top 21)) [] [] (He.ga K "_law_same") fd ∧ FnM P w K mg base 1 (He.ga K "_law_same") fd ["found", "due"] (r__law_same) := by
  obtain ⟨fd, D⟩ := G.d__law_same
  refine ⟨fd, D, fnm_at (k := 0) D sc__law_same G.sm fun A outer s H E c => ?_⟩
  exact s_one (s_ret (m_cmp (op_eqA c.rm.r.units) l_eq (m_fnB (x := "repr") (call_repA c) l_rep rfl G.z_repr PyProof.Rows.Boot.«repr» (ma_cons (m_var (i := 0) rfl (by first | exact .inl rfl | exact .inr (.inl rfl) | exact .inr (.inr rfl))) (ma_nil))) (m_fnB (x := "repr") (call_repA c) l_rep rfl G.z_repr PyProof.Rows.Boot.«repr» (ma_cons (m_op op_mulA l_mul (m_lst (ma_cons (m_var (i := 1) rfl (by first | exact .inl rfl | exact .inr (.inl rfl) | exact .inr (.inr rfl))) (ma_nil))) (m_fnB (x := "len") call_len l_len rfl G.z_len PyProof.Rows.Boot.«len» (ma_cons (m_var (i := 0) rfl (by first | exact .inl rfl | exact .inr (.inl rfl) | exact .inr (.inr rfl))) (ma_nil)))) (ma_nil))) (nomark _)))
theorem ok__law_whole (G : FX K mg) : ∃ fd, FunD K "_law_whole" "_law_whole" (defArgs (top 22)) (defBody (top 22)) (defScope (top 22)) [] [] (He.ga K "_law_whole") fd ∧ FnM P w K mg base 2 (He.ga K "_law_whole") fd ["cells", "spot"] (r__law_whole) := by
  obtain ⟨fd, D⟩ := G.d__law_whole
  obtain ⟨fd__law_cell, D__law_cell, F__law_cell⟩ := ok__law_cell (P := P) (w := w) (base := base) G
  have kb__law_cell_2 := kb_all (ps := ["cells", "spot"]) D__law_cell 2 [] [0, 1] (fun _ _ _ _ _ _ us ws h1 h2 => match us, ws, h1, h2 with | [_, _], [], _, _ => rfl)
  refine ⟨fd, D, fnm_at (k := 1) D sc__law_whole G.sm fun A outer s H E c => ?_⟩
  exact s_cons (s_set (i := 2) c.nd rfl (by first | exact .inl rfl | exact .inr rfl) (m_call (x := "_law_cell") (F__law_cell.mono (by decide)) c (by rfl) G.g__law_cell D__law_cell.kp kb__law_cell_2 (ma_cons (m_var (i := 0) rfl (by first | exact .inl rfl | exact .inr (.inl rfl) | exact .inr (.inr rfl))) (ma_cons (m_var (i := 1) rfl (by first | exact .inl rfl | exact .inr (.inl rfl) | exact .inr (.inr rfl))) (ma_nil)))) (.inl rfl))
    (s_cons (s_set (i := 3) c.nd rfl (by first | exact .inl rfl | exact .inr rfl) (m_ix ix_seq l_ix (m_lst (ma_cons (m_int) (ma_cons (m_op op_sub l_sub (m_int) (m_int)) (ma_nil)))) (m_op op_modN l_mod (m_op op_fdivA l_fdiv (m_var (i := 2) rfl (by first | exact .inl rfl | exact .inr (.inl rfl) | exact .inr (.inr rfl))) (m_int)) (m_int)) (fun _ _ => rfl)) (.inl rfl))
    (s_cons (s_set (i := 4) c.nd rfl (by first | exact .inl rfl | exact .inr rfl) (m_op op_mulA l_mul (m_op op_mulA l_mul (m_op op_mulA l_mul (m_var (i := 2) rfl (by first | exact .inl rfl | exact .inr (.inl rfl) | exact .inr (.inr rfl))) (m_var (i := 2) rfl (by first | exact .inl rfl | exact .inr (.inl rfl) | exact .inr (.inr rfl)))) (m_op op_addA l_add (m_var (i := 2) rfl (by first | exact .inl rfl | exact .inr (.inl rfl) | exact .inr (.inr rfl))) (m_op op_powA l_pow (m_int) (m_int)))) (m_var (i := 3) rfl (by first | exact .inl rfl | exact .inr (.inl rfl) | exact .inr (.inr rfl)))) (.inl rfl))
    (s_cons (s_set (i := 5) c.nd rfl (by first | exact .inl rfl | exact .inr rfl) (m_op op_sub l_sub (m_op op_addA l_add (m_op op_mulA l_mul (m_ix ix_seq l_ix (m_lst (ma_cons (m_op op_powA l_pow (m_int) (m_int)) (ma_cons (m_op op_mulA l_mul (m_int) (m_op op_powA l_pow (m_int) (m_int))) (ma_nil)))) (m_op op_modN l_mod (m_op op_fdivA l_fdiv (m_var (i := 2) rfl (by first | exact .inl rfl | exact .inr (.inl rfl) | exact .inr (.inr rfl))) (m_int)) (m_int)) (fun _ _ => rfl)) (m_var (i := 3) rfl (by first | exact .inl rfl | exact .inr (.inl rfl) | exact .inr (.inr rfl)))) (m_op op_modN l_mod (m_op op_fdivA l_fdiv (m_var (i := 2) rfl (by first | exact .inl rfl | exact .inr (.inl rfl) | exact .inr (.inr rfl))) (m_int)) (m_int))) (m_int)) (.inl rfl))
    (s_cons (s_set (i := 6) c.nd rfl (by first | exact .inl rfl | exact .inr rfl) (m_lst (ma_cons (m_op op_sub l_sub (m_op op_modN l_mod (m_op op_fdivA l_fdiv (m_var (i := 2) rfl (by first | exact .inl rfl | exact .inr (.inl rfl) | exact .inr (.inr rfl))) (m_int)) (m_int)) (m_int)) (ma_cons (m_var (i := 2) rfl (by first | exact .inl rfl | exact .inr (.inl rfl) | exact .inr (.inr rfl))) (ma_cons (m_op op_sub l_sub (m_int) (m_var (i := 2) rfl (by first | exact .inl rfl | exact .inr (.inl rfl) | exact .inr (.inr rfl)))) (ma_cons (m_var (i := 4) rfl (by first | exact .inl rfl | exact .inr (.inl rfl) | exact .inr (.inr rfl))) (ma_cons (m_var (i := 5) rfl (by first | exact .inl rfl | exact .inr (.inl rfl) | exact .inr (.inr rfl))) (ma_cons (m_var (i := 5) rfl (by first | exact .inl rfl | exact .inr (.inl rfl) | exact .inr (.inr rfl))) (ma_cons (m_int) (ma_nil))))))))) (.inl rfl))
    (s_one (s_ret (m_ix ix_seq l_ix (m_op op_addA l_add (m_var (i := 6) rfl (by first | exact .inl rfl | exact .inr (.inl rfl) | exact .inr (.inr rfl))) (m_lst (ma_cons (m_op op_mulA l_mul (m_var (i := 4) rfl (by first | exact .inl rfl | exact .inr (.inl rfl) | exact .inr (.inr rfl))) (m_var (i := 4) rfl (by first | exact .inl rfl | exact .inr (.inl rfl) | exact .inr (.inr rfl)))) (ma_nil)))) (m_op op_modN l_mod (m_var (i := 2) rfl (by first | exact .inl rfl | exact .inr (.inl rfl) | exact .inr (.inr rfl))) (m_int)) (fun _ _ => rfl))))))))
theorem ok__law_within (G : FX K mg) : ∃ fd, FunD K "_law_within" "_law_within" (defArgs (top 23)) (defBody (top 23)) (defScope (top 23)) [] [] (He.ga K "_law_within") fd ∧ FnM P w K mg base 1 (He.ga K "_law_within") fd ["thing", "under", "over"] (r__law_within) := by
  obtain ⟨fd, D⟩ := G.d__law_within
  refine ⟨fd, D, fnm_at (k := 0) D sc__law_within G.sm fun A outer s H E c => ?_⟩
  exact s_cons (s_if (t_w (w_or (t_not (t_val (m_fnB (x := "isinstance") call_isiA (l_isi xt0_ok) rfl G.z_isinstance PyProof.Rows.Boot.«isinstance» (ma_cons (m_var (i := 0) rfl (by first | exact .inl rfl | exact .inr (.inl rfl) | exact .inr (.inr rfl))) (ma_cons (m_ty (x := "int") rfl G.z_int PyProof.Rows.Boot.«int») (ma_nil)))))) (w_or1 (t_val (m_fnB (x := "isinstance") call_isiA (l_isi xt0_ok) rfl G.z_isinstance PyProof.Rows.Boot.«isinstance» (ma_cons (m_var (i := 0) rfl (by first | exact .inl rfl | exact .inr (.inl rfl) | exact .inr (.inr rfl))) (ma_cons (m_ty (x := "bool") rfl G.z_bool PyProof.Rows.Boot.«bool») (ma_nil))))))))
     (s_one (s_ret (m_bl)))
     (s_nil))
    (s_one (s_ret (m_and (m_or (m_cmp op_isN l_is (m_var (i := 1) rfl (by first | exact .inl rfl | exact .inr (.inl rfl) | exact .inr (.inr rfl))) (m_non) (nomark _)) (m_and1 (m_cmp op_le l_le (m_var (i := 1) rfl (by first | exact .inl rfl | exact .inr (.inl rfl) | exact .inr (.inr rfl))) (m_var (i := 0) rfl (by first | exact .inl rfl | exact .inr (.inl rfl) | exact .inr (.inr rfl))) (nomark _)))) (m_and1 (m_or (m_cmp op_isN l_is (m_var (i := 2) rfl (by first | exact .inl rfl | exact .inr (.inl rfl) | exact .inr (.inr rfl))) (m_non) (nomark _)) (m_and1 (m_cmp op_le l_le (m_var (i := 0) rfl (by first | exact .inl rfl | exact .inr (.inl rfl) | exact .inr (.inr rfl))) (m_var (i := 2) rfl (by first | exact .inl rfl | exact .inr (.inl rfl) | exact .inr (.inr rfl))) (nomark _))))))))
theorem ok__law_right (G : FX K mg) (TB : ∀ x ∈ lamDefs, LamX.TabB base mg (He.cT K (x, none)).1 (He.cT K (x, none)).2) : ∃ fd, FunD K "_law_right" "_law_right" (defArgs (top 24)) (defBody (top 24)) (defScope (top 24)) [] [] (He.ga K "_law_right") fd ∧ FnM P w K mg base 6 (He.ga K "_law_right") fd ["thing", "low", "high"] (r__law_right (fun x => (He.cT K (x, none)).2)) := by
  obtain ⟨fd, D⟩ := G.d__law_right
  obtain ⟨fd__law_same, D__law_same, F__law_same⟩ := ok__law_same (P := P) (w := w) (base := base) G
  obtain ⟨fd__law_told, D__law_told⟩ := G.d__law_told
  obtain ⟨fd__law_within, D__law_within, F__law_within⟩ := ok__law_within (P := P) (w := w) (base := base) G
  obtain ⟨fd_check_distance, D_check_distance, F_check_distance⟩ := ok_check_distance (P := P) (w := w) (base := base) G
  obtain ⟨fd_check_place, D_check_place, F_check_place⟩ := ok_check_place (P := P) (w := w) (base := base) G
  obtain ⟨fd_is_integer, D_is_integer, F_is_integer⟩ := ok_is_integer (P := P) (w := w) (base := base) G
  obtain ⟨fd_is_place, D_is_place, F_is_place⟩ := ok_is_place (P := P) (w := w) (base := base) G
  have kb__law_same_2 := kb_all (ps := ["found", "due"]) D__law_same 2 [] [0, 1] (fun _ _ _ _ _ _ us ws h1 h2 => match us, ws, h1, h2 with | [_, _], [], _, _ => rfl)
  have kb__law_within_3 := kb_all (ps := ["thing", "under", "over"]) D__law_within 3 [] [0, 1, 2] (fun _ _ _ _ _ _ us ws h1 h2 => match us, ws, h1, h2 with | [_, _, _], [], _, _ => rfl)
  obtain ⟨mv_kb_is_integer_1, kb_is_integer_1⟩ := kb_kw (ps := ["value", "least", "most"]) D_is_integer 1 [] ([("least", .non), ("most", .non)] : List (Str × V)) [.non, .non] [0, 1, 2] (by simp) (by simp) (fun _ _ => ⟨_, _, rfl, rfl, ⟨_, _, rfl, rfl, rfl⟩⟩) (fun _ _ _ _ _ _ us mv ws h1 h2 h3 => match us, mv, ws, h1, h2, h3 with | [_], [_, _], [], _, _, _ => ⟨_, _, _, _, _, _, rfl, rfl, ⟨_, _, _, _, _, _, rfl, rfl, rfl⟩⟩)
  obtain ⟨mv_kb_is_integer_1_least, kb_is_integer_1_least⟩ := kb_kw (ps := ["value", "least", "most"]) D_is_integer 1 ["least"] ([("most", .non)] : List (Str × V)) [.non] [0, 2, 1] (by simp) (by simp) (fun _ _ => ⟨_, _, rfl, rfl, rfl⟩) (fun _ _ _ _ _ _ us mv ws h1 h2 h3 => match us, mv, ws, h1, h2, h3 with | [_], [_], [_], _, _, _ => ⟨_, _, _, _, _, _, rfl, rfl, rfl⟩)
  obtain ⟨mv_kb_is_integer_1_most, kb_is_integer_1_most⟩ := kb_kw (ps := ["value", "least", "most"]) D_is_integer 1 ["most"] ([("least", .non)] : List (Str × V)) [.non] [0, 1, 2] (by simp) (by simp) (fun _ _ => ⟨_, _, rfl, rfl, rfl⟩) (fun _ _ _ _ _ _ us mv ws h1 h2 h3 => match us, mv, ws, h1, h2, h3 with | [_], [_], [_], _, _, _ => ⟨_, _, _, _, _, _, rfl, rfl, rfl⟩)
  have kb_is_integer_0_value_most_least := kb_all (ps := ["value", "least", "most"]) D_is_integer 0 ["value", "most", "least"] [0, 2, 1] (fun _ _ _ _ _ _ us ws h1 h2 => match us, ws, h1, h2 with | [], [_, _, _], _, _ => rfl)
  have kb_is_place_0_value := kb_all (ps := ["value"]) D_is_place 0 ["value"] [0] (fun _ _ _ _ _ _ us ws h1 h2 => match us, ws, h1, h2 with | [], [_], _, _ => rfl)
  have kb_is_place_1 := kb_all (ps := ["value"]) D_is_place 1 [] [0] (fun _ _ _ _ _ _ us ws h1 h2 => match us, ws, h1, h2 with | [_], [], _, _ => rfl)
  have kb_check_place_1 := kb_all (ps := ["value"]) D_check_place 1 [] [0] (fun _ _ _ _ _ _ us ws h1 h2 => match us, ws, h1, h2 with | [_], [], _, _ => rfl)
  have kb_check_place_0_value := kb_all (ps := ["value"]) D_check_place 0 ["value"] [0] (fun _ _ _ _ _ _ us ws h1 h2 => match us, ws, h1, h2 with | [], [_], _, _ => rfl)
  have kb_check_distance_1 := kb_all (ps := ["value"]) D_check_distance 1 [] [0] (fun _ _ _ _ _ _ us ws h1 h2 => match us, ws, h1, h2 with | [_], [], _, _ => rfl)
  have kb_check_distance_0_value := kb_all (ps := ["value"]) D_check_distance 0 ["value"] [0] (fun _ _ _ _ _ _ us ws h1 h2 => match us, ws, h1, h2 with | [], [_], _, _ => rfl)
  refine ⟨fd, D, fnm_at (k := 5) D sc__law_right G.sm fun A outer s H E c => ?_⟩
  exact s_cons (s_if (t_not (t_val (m_call (x := "_law_same") (F__law_same.mono (by decide)) c (by rfl) G.g__law_same D__law_same.kp kb__law_same_2 (ma_cons (m_lst (ma_cons (m_call (x := "is_integer") (F_is_integer.mono (by decide)) c (by rfl) G.g_is_integer D_is_integer.kp kb_is_integer_1 (ma_cons (m_var (i := 0) rfl (by first | exact .inl rfl | exact .inr (.inl rfl) | exact .inr (.inr rfl))) (ma_nil))) (ma_nil))) (ma_cons (m_call (x := "_law_within") (F__law_within.mono (by decide)) c (by rfl) G.g__law_within D__law_within.kp kb__law_within_3 (ma_cons (m_var (i := 0) rfl (by first | exact .inl rfl | exact .inr (.inl rfl) | exact .inr (.inr rfl))) (ma_cons (m_non) (ma_cons (m_non) (ma_nil))))) (ma_nil))))))
     (s_one (s_ret (m_bl)))
     (s_nil))
    (s_cons (s_if (t_not (t_val (m_call (x := "_law_same") (F__law_same.mono (by decide)) c (by rfl) G.g__law_same D__law_same.kp kb__law_same_2 (ma_cons (m_lst (ma_cons (m_callK (x := "is_integer") (F_is_integer.mono (by decide)) c (by rfl) G.g_is_integer D_is_integer.kp kb_is_integer_1_least (ma_cons (m_var (i := 0) rfl (by first | exact .inl rfl | exact .inr (.inl rfl) | exact .inr (.inr rfl))) (ma_nil)) (mk_cons (m_var (i := 1) rfl (by first | exact .inl rfl | exact .inr (.inl rfl) | exact .inr (.inr rfl))) (mk_nil))) (ma_nil))) (ma_cons (m_call (x := "_law_within") (F__law_within.mono (by decide)) c (by rfl) G.g__law_within D__law_within.kp kb__law_within_3 (ma_cons (m_var (i := 0) rfl (by first | exact .inl rfl | exact .inr (.inl rfl) | exact .inr (.inr rfl))) (ma_cons (m_var (i := 1) rfl (by first | exact .inl rfl | exact .inr (.inl rfl) | exact .inr (.inr rfl))) (ma_cons (m_non) (ma_nil))))) (ma_nil))))))
     (s_one (s_ret (m_bl)))
     (s_nil))
    (s_cons (s_if (t_not (t_val (m_call (x := "_law_same") (F__law_same.mono (by decide)) c (by rfl) G.g__law_same D__law_same.kp kb__law_same_2 (ma_cons (m_lst (ma_cons (m_callK (x := "is_integer") (F_is_integer.mono (by decide)) c (by rfl) G.g_is_integer D_is_integer.kp kb_is_integer_1_most (ma_cons (m_var (i := 0) rfl (by first | exact .inl rfl | exact .inr (.inl rfl) | exact .inr (.inr rfl))) (ma_nil)) (mk_cons (m_var (i := 2) rfl (by first | exact .inl rfl | exact .inr (.inl rfl) | exact .inr (.inr rfl))) (mk_nil))) (ma_nil))) (ma_cons (m_call (x := "_law_within") (F__law_within.mono (by decide)) c (by rfl) G.g__law_within D__law_within.kp kb__law_within_3 (ma_cons (m_var (i := 0) rfl (by first | exact .inl rfl | exact .inr (.inl rfl) | exact .inr (.inr rfl))) (ma_cons (m_non) (ma_cons (m_var (i := 2) rfl (by first | exact .inl rfl | exact .inr (.inl rfl) | exact .inr (.inr rfl))) (ma_nil))))) (ma_nil))))))
     (s_one (s_ret (m_bl)))
     (s_nil))
    (s_cons (s_set (i := 3) c.nd rfl (by first | exact .inl rfl | exact .inr rfl) (m_lst (ma_cons (m_callK0 (x := "is_integer") (F_is_integer.mono (by decide)) c (by rfl) G.g_is_integer D_is_integer.kp kb_is_integer_0_value_most_least (mk_cons (m_var (i := 0) rfl (by first | exact .inl rfl | exact .inr (.inl rfl) | exact .inr (.inr rfl))) (mk_cons (m_var (i := 2) rfl (by first | exact .inl rfl | exact .inr (.inl rfl) | exact .inr (.inr rfl))) (mk_cons (m_var (i := 1) rfl (by first | exact .inl rfl | exact .inr (.inl rfl) | exact .inr (.inr rfl))) (mk_nil))))) (ma_nil))) (.inl rfl))
    (s_cons (s_if (t_not (t_val (m_call (x := "_law_same") (F__law_same.mono (by decide)) c (by rfl) G.g__law_same D__law_same.kp kb__law_same_2 (ma_cons (m_var (i := 3) rfl (by first | exact .inl rfl | exact .inr (.inl rfl) | exact .inr (.inr rfl))) (ma_cons (m_call (x := "_law_within") (F__law_within.mono (by decide)) c (by rfl) G.g__law_within D__law_within.kp kb__law_within_3 (ma_cons (m_var (i := 0) rfl (by first | exact .inl rfl | exact .inr (.inl rfl) | exact .inr (.inr rfl))) (ma_cons (m_var (i := 1) rfl (by first | exact .inl rfl | exact .inr (.inl rfl) | exact .inr (.inr rfl))) (ma_cons (m_var (i := 2) rfl (by first | exact .inl rfl | exact .inr (.inl rfl) | exact .inr (.inr rfl))) (ma_nil))))) (ma_nil))))))
     (s_one (s_ret (m_bl)))
     (s_nil))
    (s_cons (s_set (i := 4) c.nd rfl (by first | exact .inl rfl | exact .inr rfl) (m_call (x := "_law_within") (F__law_within.mono (by decide)) c (by rfl) G.g__law_within D__law_within.kp kb__law_within_3 (ma_cons (m_var (i := 0) rfl (by first | exact .inl rfl | exact .inr (.inl rfl) | exact .inr (.inr rfl))) (ma_cons (m_op op_sub l_sub (m_int) (m_op op_powA l_pow (m_int) (m_int))) (ma_cons (m_op op_powA l_pow (m_int) (m_int)) (ma_nil))))) (.inl rfl))
    (s_cons (s_if (t_not (t_val (m_call (x := "_law_same") (F__law_same.mono (by decide)) c (by rfl) G.g__law_same D__law_same.kp kb__law_same_2 (ma_cons (m_lst (ma_cons (m_call (x := "is_place") (F_is_place.mono (by decide)) c (by rfl) G.g_is_place D_is_place.kp kb_is_place_1 (ma_cons (m_var (i := 0) rfl (by first | exact .inl rfl | exact .inr (.inl rfl) | exact .inr (.inr rfl))) (ma_nil))) (ma_cons (m_callK0 (x := "is_place") (F_is_place.mono (by decide)) c (by rfl) G.g_is_place D_is_place.kp kb_is_place_0_value (mk_cons (m_var (i := 0) rfl (by first | exact .inl rfl | exact .inr (.inl rfl) | exact .inr (.inr rfl))) (mk_nil))) (ma_nil)))) (ma_cons (m_var (i := 4) rfl (by first | exact .inl rfl | exact .inr (.inl rfl) | exact .inr (.inr rfl))) (ma_nil))))))
     (s_one (s_ret (m_bl)))
     (s_nil))
    (s_cons (s_set (i := 3) c.nd rfl (by first | exact .inl rfl | exact .inr rfl) (m_lst (ma_cons (m_told (x := "_law_told") (a := "deed") (k := 3) c rfl G.g__law_told D__law_told (fun _ _ _ _ _ _ us hl => match us, hl with | [_], _ => rfl) sc__law_told rfl (.inl rfl) (fun cdv => told_ok c.sm G) (TB "_law_right" (by simp [lamDefs])) rfl (LamX.lamS_by (by kernel_rfl)) rfl (fun _ _ _ _ _ => rfl) (fun A outer s H E f c' cL => m_call (x := "check_place") (F_check_place.mono (by decide)) cL (by rfl) G.g_check_place D_check_place.kp kb_check_place_1 (ma_cons (m_var (i := 0) rfl (by first | exact .inl rfl | exact .inr (.inl rfl) | exact .inr (.inr rfl))) (ma_nil)))) (ma_nil))) (.inl rfl))
    (s_cons (s_expr (m_bm PySem.F.slot_list_append PySem.F.type_list_append mt_append l_append (m_var (i := 3) rfl (by first | exact .inl rfl | exact .inr (.inl rfl) | exact .inr (.inr rfl))) (ma_cons (m_told (x := "_law_told") (a := "deed") (k := 3) c rfl G.g__law_told D__law_told (fun _ _ _ _ _ _ us hl => match us, hl with | [_], _ => rfl) sc__law_told rfl (.inl rfl) (fun cdv => told_ok c.sm G) (TB "_law_right" (by simp [lamDefs])) rfl (LamX.lamS_by (by kernel_rfl)) rfl (fun _ _ _ _ _ => rfl) (fun A outer s H E f c' cL => m_callK0 (x := "check_place") (F_check_place.mono (by decide)) cL (by rfl) G.g_check_place D_check_place.kp kb_check_place_0_value (mk_cons (m_var (i := 0) rfl (by first | exact .inl rfl | exact .inr (.inl rfl) | exact .inr (.inr rfl))) (mk_nil)))) (ma_nil))))
    (s_cons (s_if (t_not (t_val (m_call (x := "_law_same") (F__law_same.mono (by decide)) c (by rfl) G.g__law_same D__law_same.kp kb__law_same_2 (ma_cons (m_var (i := 3) rfl (by first | exact .inl rfl | exact .inr (.inl rfl) | exact .inr (.inr rfl))) (ma_cons (m_ifE (t_val (m_var (i := 4) rfl (by first | exact .inl rfl | exact .inr (.inl rfl) | exact .inr (.inr rfl)))) (m_lst (ma_cons (m_non) (ma_nil))) (m_tup (ma_cons (m_str) (ma_cons (m_var (i := 0) rfl (by first | exact .inl rfl | exact .inr (.inl rfl) | exact .inr (.inr rfl))) (ma_nil))))) (ma_nil))))))
     (s_one (s_ret (m_bl)))
     (s_nil))
    (s_cons (s_set (i := 4) c.nd rfl (by first | exact .inl rfl | exact .inr rfl) (m_call (x := "_law_within") (F__law_within.mono (by decide)) c (by rfl) G.g__law_within D__law_within.kp kb__law_within_3 (ma_cons (m_var (i := 0) rfl (by first | exact .inl rfl | exact .inr (.inl rfl) | exact .inr (.inr rfl))) (ma_cons (m_op op_sub l_sub (m_int) (m_op op_mulA l_mul (m_int) (m_op op_powA l_pow (m_int) (m_int)))) (ma_cons (m_op op_mulA l_mul (m_int) (m_op op_powA l_pow (m_int) (m_int))) (ma_nil))))) (.inl rfl))
    (s_cons (s_set (i := 3) c.nd rfl (by first | exact .inl rfl | exact .inr rfl) (m_lst (ma_cons (m_told (x := "_law_told") (a := "deed") (k := 3) c rfl G.g__law_told D__law_told (fun _ _ _ _ _ _ us hl => match us, hl with | [_], _ => rfl) sc__law_told rfl (.inl rfl) (fun cdv => told_ok c.sm G) (TB "_law_right" (by simp [lamDefs])) rfl (LamX.lamS_by (by kernel_rfl)) rfl (fun _ _ _ _ _ => rfl) (fun A outer s H E f c' cL => m_call (x := "check_distance") (F_check_distance.mono (by decide)) cL (by rfl) G.g_check_distance D_check_distance.kp kb_check_distance_1 (ma_cons (m_var (i := 0) rfl (by first | exact .inl rfl | exact .inr (.inl rfl) | exact .inr (.inr rfl))) (ma_nil)))) (ma_nil))) (.inl rfl))
    (s_cons (s_expr (m_bm PySem.F.slot_list_append PySem.F.type_list_append mt_append l_append (m_var (i := 3) rfl (by first | exact .inl rfl | exact .inr (.inl rfl) | exact .inr (.inr rfl))) (ma_cons (m_told (x := "_law_told") (a := "deed") (k := 3) c rfl G.g__law_told D__law_told (fun _ _ _ _ _ _ us hl => match us, hl with | [_], _ => rfl) sc__law_told rfl (.inl rfl) (fun cdv => told_ok c.sm G) (TB "_law_right" (by simp [lamDefs])) rfl (LamX.lamS_by (by kernel_rfl)) rfl (fun _ _ _ _ _ => rfl) (fun A outer s H E f c' cL => m_callK0 (x := "check_distance") (F_check_distance.mono (by decide)) cL (by rfl) G.g_check_distance D_check_distance.kp kb_check_distance_0_value (mk_cons (m_var (i := 0) rfl (by first | exact .inl rfl | exact .inr (.inl rfl) | exact .inr (.inr rfl))) (mk_nil)))) (ma_nil))))
    (s_one (s_ret (m_call (x := "_law_same") (F__law_same.mono (by decide)) c (by rfl) G.g__law_same D__law_same.kp kb__law_same_2 (ma_cons (m_var (i := 3) rfl (by first | exact .inl rfl | exact .inr (.inl rfl) | exact .inr (.inr rfl))) (ma_cons (m_ifE (t_val (m_var (i := 4) rfl (by first | exact .inl rfl | exact .inr (.inl rfl) | exact .inr (.inr rfl)))) (m_lst (ma_cons (m_non) (ma_nil))) (m_tup (ma_cons (m_str) (ma_cons (m_var (i := 0) rfl (by first | exact .inl rfl | exact .inr (.inl rfl) | exact .inr (.inr rfl))) (ma_nil))))) (ma_nil))))))))))))))))))
theorem ok_law (G : FX K mg) (TB : ∀ x ∈ lamDefs, LamX.TabB base mg (He.cT K (x, none)).1 (He.cT K (x, none)).2) : ∃ fd, FunD K "law" "law" (defArgs (top 25)) (defBody (top 25)) (defScope (top 25)) [] [] (He.ga K "law") fd ∧ FnM P w K mg base 7 (He.ga K "law") fd ["script"] (r_law (fun x => (He.cT K (x, none)).2)) := by
  obtain ⟨fd, D⟩ := G.d_law
  obtain ⟨fd__law_cell, D__law_cell, F__law_cell⟩ := ok__law_cell (P := P) (w := w) (base := base) G
  obtain ⟨fd__law_right, D__law_right, F__law_right⟩ := ok__law_right (P := P) (w := w) (base := base) G TB
  obtain ⟨fd__law_whole, D__law_whole, F__law_whole⟩ := ok__law_whole (P := P) (w := w) (base := base) G
  have kb__law_whole_2 := kb_all (ps := ["cells", "spot"]) D__law_whole 2 [] [0, 1] (fun _ _ _ _ _ _ us ws h1 h2 => match us, ws, h1, h2 with | [_, _], [], _, _ => rfl)
  have kb__law_cell_2 := kb_all (ps := ["cells", "spot"]) D__law_cell 2 [] [0, 1] (fun _ _ _ _ _ _ us ws h1 h2 => match us, ws, h1, h2 with | [_, _], [], _, _ => rfl)
  have kb__law_right_3 := kb_all (ps := ["thing", "low", "high"]) D__law_right 3 [] [0, 1, 2] (fun _ _ _ _ _ _ us ws h1 h2 => match us, ws, h1, h2 with | [_, _, _], [], _, _ => rfl)
  refine ⟨fd, D, fnm_at (k := 6) D sc_law G.sm fun A outer s H E c => ?_⟩
  exact s_cons (s_set (i := 1) c.nd rfl (by first | exact .inl rfl | exact .inr rfl) (m_lst (ma_cons (m_int) (ma_nil))) (.inl rfl))
    (s_cons (s_for c (i_rng1 rfl G.z_range (ma_cons (m_op op_addA l_add (m_int) (m_fnB (x := "min") (call_min2 c.calm) l_i2 rfl G.z_min PyProof.Rows.Boot.«min» (ma_cons (m_int) (ma_cons (m_fnB (x := "len") call_len l_len rfl G.z_len PyProof.Rows.Boot.«len» (ma_cons (m_var (i := 0) rfl (by first | exact .inl rfl | exact .inr (.inl rfl) | exact .inr (.inr rfl))) (ma_nil))) (ma_nil))))) (ma_nil))) (g_name c.nd (i := 2) rfl (by first | exact .inl rfl | exact .inr rfl) (.inl rfl))
     (s_cons (s_asg (m_comp (tg := (.one 9)) c.calm c.nd (i_rng1 rfl G.z_range (ma_cons (m_int) (ma_nil))) (blkOk_by (own := [("k", 9)]) (by kernel_rfl)) ((by decide)) (fun s H C cl fp => pg_name c.nd rfl (by first | exact .inl rfl | exact .inr rfl) (.inr rfl)) (fun s H C cl fp => ts_nil) (fun s H C cl fp => m_call (x := "_law_whole") (F__law_whole.mono (by decide)) (cm_blk c s H _ _ fp) (by rfl) G.g__law_whole D__law_whole.kp kb__law_whole_2 (ma_cons (m_var (i := 0) rfl (by first | exact .inl rfl | exact .inr (.inl rfl) | exact .inr (.inr rfl))) (ma_cons (m_var (i := 1) rfl (by first | exact .inl rfl | exact .inr (.inl rfl) | exact .inr (.inr rfl))) (ma_nil))))) (g_lst c.calm (gs_cons (g_name c.nd (i := 3) rfl (by first | exact .inl rfl | exact .inr rfl) (.inl rfl)) (gs_cons (g_name c.nd (i := 4) rfl (by first | exact .inl rfl | exact .inr rfl) (.inl rfl)) (gs_cons (g_name c.nd (i := 5) rfl (by first | exact .inl rfl | exact .inr rfl) (.inl rfl)) (gs_nil))))))
     (s_cons (s_set (i := 6) c.nd rfl (by first | exact .inl rfl | exact .inr rfl) (m_call (x := "_law_cell") (F__law_cell.mono (by decide)) c (by rfl) G.g__law_cell D__law_cell.kp kb__law_cell_2 (ma_cons (m_var (i := 0) rfl (by first | exact .inl rfl | exact .inr (.inl rfl) | exact .inr (.inr rfl))) (ma_cons (m_var (i := 1) rfl (by first | exact .inl rfl | exact .inr (.inl rfl) | exact .inr (.inr rfl))) (ma_nil)))) (.inl rfl))
     (s_cons (s_par (i := 4) (j := 5) c.calm c.nd rfl rfl (by decide) rfl rfl (ma_cons (m_ix ix_seq l_ix (m_lst (ma_cons (m_var (i := 4) rfl (by first | exact .inl rfl | exact .inr (.inl rfl) | exact .inr (.inr rfl))) (ma_cons (m_non) (ma_cons (m_var (i := 3) rfl (by first | exact .inl rfl | exact .inr (.inl rfl) | exact .inr (.inr rfl))) (ma_nil))))) (m_op op_modN l_mod (m_var (i := 6) rfl (by first | exact .inl rfl | exact .inr (.inl rfl) | exact .inr (.inr rfl))) (m_int)) (fun _ _ => rfl)) (ma_cons (m_ix ix_seq l_ix (m_lst (ma_cons (m_var (i := 5) rfl (by first | exact .inl rfl | exact .inr (.inl rfl) | exact .inr (.inr rfl))) (ma_cons (m_non) (ma_cons (m_var (i := 3) rfl (by first | exact .inl rfl | exact .inr (.inl rfl) | exact .inr (.inr rfl))) (ma_nil))))) (m_op op_modN l_mod (m_op op_fdivA l_fdiv (m_var (i := 6) rfl (by first | exact .inl rfl | exact .inr (.inl rfl) | exact .inr (.inr rfl))) (m_int)) (m_int)) (fun _ _ => rfl)) (ma_nil))) rfl)
     (s_cons (s_set (i := 7) c.nd rfl (by first | exact .inl rfl | exact .inr rfl) (m_ix ix_seq l_ix (m_lst (ma_cons (m_non) (ma_cons (m_bl) (ma_cons (m_bl) (ma_cons (m_str) (ma_cons (m_str) (ma_cons (m_tup (ma_nil)) (ma_cons (m_lst (ma_nil)) (ma_cons (m_dct0) (ma_cons (m_tup (ma_cons (m_int) (ma_nil))) (ma_cons (m_lst (ma_cons (m_var (i := 3) rfl (by first | exact .inl rfl | exact .inr (.inl rfl) | exact .inr (.inr rfl))) (ma_nil))) (ma_nil)))))))))))) (m_op op_modN l_mod (m_op op_fdivA l_fdiv (m_var (i := 6) rfl (by first | exact .inl rfl | exact .inr (.inl rfl) | exact .inr (.inr rfl))) (m_int)) (m_int)) (fun _ _ => rfl)) (.inl rfl))
     (s_one (s_for c (i_seq (m_tup (ma_cons (m_var (i := 3) rfl (by first | exact .inl rfl | exact .inr (.inl rfl) | exact .inr (.inr rfl))) (ma_cons (m_op op_addA l_add (m_var (i := 3) rfl (by first | exact .inl rfl | exact .inr (.inl rfl) | exact .inr (.inr rfl))) (m_int)) (ma_cons (m_op op_sub l_sub (m_var (i := 3) rfl (by first | exact .inl rfl | exact .inr (.inl rfl) | exact .inr (.inr rfl))) (m_int)) (ma_cons (m_var (i := 7) rfl (by first | exact .inl rfl | exact .inr (.inl rfl) | exact .inr (.inr rfl))) (ma_cons (m_tup (ma_cons (m_var (i := 3) rfl (by first | exact .inl rfl | exact .inr (.inl rfl) | exact .inr (.inr rfl))) (ma_nil))) (ma_nil)))))))) (g_name c.nd (i := 8) rfl (by first | exact .inl rfl | exact .inr rfl) (.inl rfl))
      (s_one (s_if (t_not (t_val (m_call (x := "_law_right") (F__law_right.mono (by decide)) c (by rfl) G.g__law_right D__law_right.kp kb__law_right_3 (ma_cons (m_var (i := 8) rfl (by first | exact .inl rfl | exact .inr (.inl rfl) | exact .inr (.inr rfl))) (ma_cons (m_var (i := 4) rfl (by first | exact .inl rfl | exact .inr (.inl rfl) | exact .inr (.inr rfl))) (ma_cons (m_var (i := 5) rfl (by first | exact .inl rfl | exact .inr (.inl rfl) | exact .inr (.inr rfl))) (ma_nil)))))))
       (s_one (s_ret (m_bl)))
       (s_nil))))))))))
    (s_cons (s_for c (i_seq (m_tup (ma_cons (m_op op_powA l_pow (m_int) (m_int)) (ma_cons (m_op op_sub l_sub (m_int) (m_op op_powA l_pow (m_int) (m_int))) (ma_cons (m_op op_mulA l_mul (m_int) (m_op op_powA l_pow (m_int) (m_int))) (ma_cons (m_op op_sub l_sub (m_int) (m_op op_mulA l_mul (m_int) (m_op op_powA l_pow (m_int) (m_int)))) (ma_nil))))))) (g_name c.nd (i := 3) rfl (by first | exact .inl rfl | exact .inr rfl) (.inl rfl))
     (s_cons (s_if (t_w (w_or (t_not (t_val (m_call (x := "_law_right") (F__law_right.mono (by decide)) c (by rfl) G.g__law_right D__law_right.kp kb__law_right_3 (ma_cons (m_var (i := 3) rfl (by first | exact .inl rfl | exact .inr (.inl rfl) | exact .inr (.inr rfl))) (ma_cons (m_non) (ma_cons (m_int) (ma_nil))))))) (w_or1 (t_not (t_val (m_call (x := "_law_right") (F__law_right.mono (by decide)) c (by rfl) G.g__law_right D__law_right.kp kb__law_right_3 (ma_cons (m_op op_addA l_add (m_var (i := 3) rfl (by first | exact .inl rfl | exact .inr (.inl rfl) | exact .inr (.inr rfl))) (m_int)) (ma_cons (m_int) (ma_cons (m_non) (ma_nil))))))))))
      (s_one (s_ret (m_bl)))
      (s_nil))
     (s_one (s_if (t_not (t_val (m_call (x := "_law_right") (F__law_right.mono (by decide)) c (by rfl) G.g__law_right D__law_right.kp kb__law_right_3 (ma_cons (m_op op_sub l_sub (m_var (i := 3) rfl (by first | exact .inl rfl | exact .inr (.inl rfl) | exact .inr (.inr rfl))) (m_int)) (ma_cons (m_int) (ma_cons (m_int) (ma_nil)))))))
      (s_one (s_ret (m_bl)))
      (s_nil)))))
    (s_one (s_ret (m_cmp (op_eqA c.rm.r.units) l_eq (m_lst (ma_cons (m_gint (x := "MAX_PLACE") rfl G.i_MAX_PLACE.choose_spec) (ma_cons (m_gint (x := "MAX_DISTANCE") rfl G.i_MAX_DISTANCE.choose_spec) (ma_nil)))) (m_lst (ma_cons (m_op op_powA l_pow (m_int) (m_int)) (ma_cons (m_op op_mulA l_mul (m_int) (m_op op_powA l_pow (m_int) (m_int))) (ma_nil)))) (nomark _))))))
end
end Lw
end
section
set_option maxHeartbeats 1000000
namespace Lw
open PySem PySem.Spec PyProof.Rows L2 Mn
local macro_rules | `(tactic| walk_at "mx") => `(tactic| simp only [wSeq, wAsgSub, gSubM, wOp, wUn, wVar, wCon, wAsg, gN, wIf, wRet, wDrop, wTst, wAndT, wOrT, wNotT, wAndV, wOrV, wIfE, wFn, wCons, wNil, wCall, wCallK, wBm, wLst, wTup, wDct0, wNext, wFor, wRng1, wSeqI, rngQ1, wPar, wRaise, wChain, mAdd, mMul, mSub, mNeg, mFdiv, mMod, mLt, mLe, mGt, mGe, mI, startM, endD, pick, List.filterMap_cons, List.filterMap_nil, List.replicate, List.map_cons, List.map_nil, List.length_cons, List.length_nil, List.cons_append, List.nil_append, List.append_nil, List.getElem?_cons_zero, List.getElem?_cons_succ, List.set_cons_zero, List.set_cons_succ, Option.some.injEq, exists_eq_left', M.bl.injEq, M.int.injEq, M.ref.injEq, decide_eq_true_eq, Nat.reduceAdd, Nat.reduceSub, Nat.zero_add, true_and, and_true])
theorem fl_eq {m1 : MH} {x : M} {xs : List M} (el : itemsM m1 x = some xs) (Q : KM) : fLen [x] m1 Q = Q (.int xs.length) m1 := propext ⟨fun ⟨m, n, e1, e2, q⟩ => by
    cases e1
    have : xs.length = n := by
      cases x with
      | tup ys =>
        have a : ys = xs := Option.some.inj el
        have b : ys.length = n := Option.some.inj e2
        rw [← a]; exact b
      | ref k =>
        have e2 : (itemsM m1 (.ref k)).map (·.length) = some n := e2
        rw [el] at e2
        simpa using e2
      | _ => cases el
    subst this
    exact q, fun q => len_go el q⟩
theorem int_at {ns : List Int} {i : Int} (h0 : 0 ≤ i) (h1 : i < ns.length) : ∃ c, atI (ns.map M.int) i = some (.int c) ∧ c ∈ ns := by
  rw [atI_nn h0 (by simpa using h1), List.getElem?_map, List.getElem?_eq_getElem (by omega)]
  exact ⟨_, rfl, List.getElem_mem _⟩
theorem bit_a {z y : Int} (hz : z.natAbs < 2 ^ 100) (hy : y.natAbs < 2 ^ 100) : BitsOk z y := mulx_ok (a := 100) (b := 100) hz hy (by decide)
section
variable {D : MD} {m1 : MH} {i j : Nat} {ns : List Int} {k : Nat} {b : Int} {o3 o4 o5 : Option M}
theorem cell_5 {sm : MS} (hb : sm[3]? = some (some (.int b))) (q : ∀ v : Int, 0 ≤ v → v < 306783379 → D.rt (.int v) m1) : w__law_cell_5 D sm m1 := by
  unfold w__law_cell_5
  walk_at "mx"
  refine ⟨_, hb, ?_⟩
  have b0 : 0 ≤ b.fmod 2147483647 := Int.fmod_nonneg_of_pos b (by decide)
  have b1 : b.fmod 2147483647 < 2147483647 := Int.fmod_lt_of_pos b (by decide)
  refine ⟨by decide, pow_small (by decide) ?_ ⟨by decide, ⟨by decide, by decide⟩, ?_⟩⟩
  · have := bits_le (i := b.fmod 2147483647) (n := 31) (by omega)
    omega
  · generalize (b.fmod 2147483647) ^ (5 : Int).toNat = y
    have y0 : 0 ≤ y.fmod 2147483647 := Int.fmod_nonneg_of_pos y (by decide)
    have y1 : y.fmod 2147483647 < 2147483647 := Int.fmod_lt_of_pos y (by decide)
    rw [Int.fdiv_eq_ediv_of_nonneg _ (by decide)]
    exact q _ (by omega) (by omega)
theorem cell_4 (el : itemsM m1 (.ref i) = some (ns.map M.int)) (hk : k < 1000000) (hl : ns.length ≤ 63) (q : ∀ v : Int, 0 ≤ v → v < 306783379 → D.rt (.int v) m1) :
    w__law_cell_4 D [some (.ref i), some (.ref j), some (.int ((k : Int) + 1)), some (.int b), o4, o5] m1 := by
  unfold w__law_cell_4 w__law_cell_4a_0
  walk_at "mx"
  simp only [fl_eq el, List.length_map]
  split
  · rename_i h
    have i0 := Int.fmod_nonneg_of_pos ((k : Int) + 1) h
    have i1 := Int.fmod_lt_of_pos ((k : Int) + 1) h
    obtain ⟨c, hc, _⟩ := int_at i0 i1
    refine ⟨by omega, ix_go el hc ?_⟩
    walk_at "mx"
    simp only [fl_eq el, List.length_map]
    have c0 := Int.fmod_nonneg_of_pos c (show (0 : Int) < 2147483629 by decide)
    have c1 := Int.fmod_lt_of_pos c (show (0 : Int) < 2147483629 by decide)
    have d0 : ((k : Int) + 1).fdiv ns.length ≤ k + 1 := by
      rw [Int.fdiv_eq_ediv_of_nonneg _ (by omega)]; exact Int.ediv_le_self _ (by omega)
    have d1 : 0 ≤ ((k : Int) + 1).fdiv ns.length := by
      rw [Int.fdiv_eq_ediv_of_nonneg _ (by omega)]; exact Int.ediv_nonneg (by omega) (by omega)
    refine ⟨by decide, ⟨by omega, ?_⟩, bit_a (by omega) (by omega), cell_5 rfl q⟩
    have : ((ns.length : Int)).natAbs = ns.length := by omega
    rw [this]
    exact Nat.lt_of_le_of_lt (Nat.log2_le_self _) (by omega)
  · exact cell_5 rfl q
theorem cell_3 (el : itemsM m1 (.ref i) = some (ns.map M.int)) (hk : k < 1000000) (hl : ns.length ≤ 63) (q : ∀ v : Int, 0 ≤ v → v < 306783379 → D.rt (.int v) m1) :
    w__law_cell_3 D [some (.ref i), some (.ref j), some (.int ((k : Int) + 1)), some (.int b), o4, o5] m1 := by
  unfold w__law_cell_3
  walk_at "mx"
  simp only [fl_eq el, List.length_map]
  by_cases h : (0 : Int) < ns.length
  · have i0 := Int.fmod_nonneg_of_pos ((k : Int) + 1) h
    have i1 := Int.fmod_lt_of_pos ((k : Int) + 1) h
    obtain ⟨c, hc, _⟩ := int_at i0 i1
    have lg : ((ns.length : Int)).natAbs.log2 < 9000 := by
      have : ((ns.length : Int)).natAbs = ns.length := by omega
      rw [this]
      exact Nat.lt_of_le_of_lt (Nat.log2_le_self _) (by omega)
    have d0 : ((k : Int) + 1).fdiv ns.length ≤ k + 1 := by
      rw [Int.fdiv_eq_ediv_of_nonneg _ (by omega)]; exact Int.ediv_le_self _ (by omega)
    have d1 : 0 ≤ ((k : Int) + 1).fdiv ns.length := by
      rw [Int.fdiv_eq_ediv_of_nonneg _ (by omega)]; exact Int.ediv_nonneg (by omega) (by omega)
    rw [if_pos h]
    refine ⟨by omega, ix_go el hc (pow_small (by decide) (by decide) ?_)⟩
    walk_at "mx"
    simp only [fl_eq el, List.length_map]
    split
    · refine ⟨⟨by omega, lg⟩, ?_⟩
      split
      · unfold w__law_cell_3a_0
        walk_at "mx"
        simp only [fl_eq el, List.length_map]
        refine ⟨by omega, ix_go el hc ?_⟩
        unfold w__law_cell_3a_1
        walk_at "mx"
        simp only [fl_eq el, List.length_map]
        refine ⟨⟨by omega, lg⟩, ⟨by omega, by omega⟩, ?_⟩
        refine loop_inv _ (fun _ sm h => h = m1 ∧ ∃ (a : Int) (o : Option M), sm = [some (.ref i), some (.ref j), some (.int ((k : Int) + 1)), some (.int b), some (.int a), o]) ⟨rfl, _, _, rfl⟩ ?_ ?_
        · rintro n m sm h hm ⟨rfl, a, o, rfl⟩
          refine ⟨trivial, fun nx' hn => ?_⟩
          unfold w__law_cell_3a1a_0
          walk_at "mx"
          exact ⟨⟨by decide, by decide⟩, hn _ _ ⟨rfl, _, _, rfl⟩⟩
        · rintro sm h ⟨rfl, a, o, rfl⟩
          refine ⟨trivial, ?_⟩
          unfold w__law_cell_3a_2 w__law_cell_3a2a_0
          walk_at "mx"
          split
          · exact ⟨by decide, q _ (Int.fmod_nonneg_of_pos a (by decide)) (Int.fmod_lt_of_pos a (by decide))⟩
          · exact cell_4 el hk hl q
      · exact cell_4 el hk hl q
    · exact cell_4 el hk hl q
  · rw [if_neg h]
    exact cell_4 el hk hl q
end
theorem cell_ok {mh : MH} {i j : Nat} {ns : List Int} {k : Nat} {Q : KM} {E : KM} (hi : mh[i]? = some (.rol (ns.map M.int))) (hj : mh[j]? = some (.lst [.int (k : Int)])) (hk : k < 1000000) (hl : ns.length ≤ 63)
    (q : ∀ v : Int, 0 ≤ v → v < 306783379 → Q (.int v) (mh.set j (.lst [.int ((k + 1 : Nat) : Int)]))) : r__law_cell [.ref i, .ref j] mh Q E := by
  refine ⟨rfl, ?_⟩
  have hjl : j < mh.length := (List.getElem?_eq_some_iff.mp hj).1
  have hij : j ≠ i := by rintro rfl; rw [hi] at hj; cases hj
  unfold w__law_cell
  walk_at "mx"
  refine ix_go (items_lst hj) rfl ?_
  walk_at "mx"
  refine ⟨j, _, _, 0, rfl, rfl, hj, rfl, ?_⟩
  generalize hm : mh.set j (.lst [.int ((k + 1 : Nat) : Int)]) = m1 at q
  have hm' : mh.set j (O.lst ([M.int k].set 0 (.int ((k : Int) + 1)))) = m1 := by rw [← hm]; rfl
  rw [hm']
  have hi1 : m1[i]? = some (.rol (ns.map M.int)) := by rw [← hm, List.getElem?_set_ne hij]; exact hi
  have hj1 : m1[j]? = some (.lst [.int ((k : Int) + 1)]) := by rw [← hm', List.getElem?_set_self hjl]; rfl
  unfold w__law_cell_1
  walk_at "mx"
  refine ix_go (items_lst hj1) rfl ?_
  unfold w__law_cell_2
  walk_at "mx"
  exact ⟨bit_a (by decide) (by omega), bit_a (by omega) (by omega), bit_a (by decide) (by omega), cell_3 (items_rol hi1) hk hl q⟩
end Lw
end
section
set_option maxHeartbeats 2000000
namespace Lw
open PySem PySem.Spec PyProof.Rows L2 Mn
local macro_rules | `(tactic| walk_at "mx") => `(tactic| simp only [wSeq, wAsgSub, gSubM, wOp, wUn, wVar, wCon, wAsg, gN, wIf, wRet, wDrop, wTst, wAndT, wOrT, wNotT, wAndV, wOrV, wIfE, wFn, wCons, wNil, wCall, wCallK, wBm, wLst, wTup, wDct0, wNext, wFor, wRng1, wSeqI, rngQ1, wPar, wRaise, wChain, mAdd, mMul, mSub, mNeg, mFdiv, mMod, mLt, mLe, mGt, mGe, mI, startM, endD, pick, List.filterMap_cons, List.filterMap_nil, List.replicate, List.map_cons, List.map_nil, List.length_cons, List.length_nil, List.cons_append, List.nil_append, List.append_nil, List.getElem?_cons_zero, List.getElem?_cons_succ, List.set_cons_zero, List.set_cons_succ, Option.some.injEq, exists_eq_left', M.bl.injEq, M.int.injEq, M.ref.injEq, decide_eq_true_eq, Nat.reduceAdd, Nat.reduceSub, Nat.zero_add, true_and, and_true])
theorem at_app {α : Type} (mh l : List α) (t : Nat) : (mh ++ l)[mh.length + t]? = l[t]? := by
  rw [List.getElem?_append_right (by omega)]; congr 1; omega
theorem at_app0 {α : Type} (mh l : List α) : (mh ++ l)[mh.length]? = l[0]? := at_app mh l 0
theorem rep_flat (m : M) : ∀ n : Nat, (List.replicate n [m]).flatten = List.replicate n m
  | 0 => rfl
  | n + 1 => by rw [List.replicate_succ, List.flatten_cons, rep_flat m n]; rfl
theorem pdL_mono {h r : MH} {n : Nat} : ∀ {xs : List M} {ds : List PyData}, pdL (pd h n) xs = some ds → pdL (pd (h ++ r) n) xs = some ds
  | [], _, e => e
  | x :: xs, _, e => by
    obtain ⟨d, rd, rfl, h1, h2⟩ := pdL_cons e
    unfold pdL
    rw [pd_mono _ _ _ h1, pdL_mono h2]
theorem pd_lst {h : MH} {n k : Nat} {xs : List M} {ds : List PyData} (e : h[k]? = some (.lst xs)) (d : pdL (pd h n) xs = some ds) : pd h (n + 1) (.ref k) = some (.list ds) := by
  show (match h[k]? with | some (.lst xs) => (pdL (pd h n) xs).map PyData.list | some (.dct []) => some (.dict []) | _ => none) = _
  rw [e]
  show (pdL (pd h n) xs).map _ = _
  rw [d]; rfl
theorem at_pre {mh r : MH} {n : Nat} {o : O} (e : mh[n]? = some o) : (mh ++ r)[n]? = some o := by
  rw [List.getElem?_append_left (List.getElem?_eq_some_iff.mp e).1]; exact e
theorem same_ok {mh : MH} {n : Nat} {xs : List M} {due : M} {d : PyData} {Q E : KM} (hn : mh[n]? = some (.lst xs)) (hx : pdL (pd mh 59) xs = some (List.replicate xs.length d)) (hd : pd mh 59 due = some d) (ok : RepOk (.list (List.replicate xs.length d))) (hl : xs.length ≤ 1000)
    (q : ∀ r, Q (.bl true) (mh ++ r)) : r__law_same [.ref n, due] mh Q E := by
  refine ⟨rfl, ?_⟩
  unfold w__law_same
  walk_at "mx"
  refine ⟨_, _, rfl, pd_lst hn hx, ok, by decide, ?_⟩
  rw [fl_eq (items_lst (at_pre hn))]
  walk_at "mx"
  refine ⟨[due], at_app0 _ _, by omega, by omega, ?_, ?_⟩
  · have : SZ = 16777216 := rfl
    rw [this]
    show 1 * _ ≤ _
    omega
  rw [Int.toNat_natCast, rep_flat]
  refine ⟨_, .list (List.replicate xs.length d), rfl, ?_, ok, ?_⟩
  · rw [List.append_assoc]
    refine pd_lst (xs := List.replicate xs.length due) ?_ (pdL_rep (pd_mono _ _ _ hd) _)
    rw [List.length_append]
    exact at_app _ _ 1
  · show Q (.bl (_ == _)) _
    rw [beq_self_eq_true, List.append_assoc]
    exact q _
theorem ne_ref {a b : Nat} {h : MH} {Q : KM} (q : mEqG true (.ref a) (.ref b) h Q) : mNe (.ref a) (.ref b) h Q := by
  unfold mNe; exact q
theorem eq_ref {a b : Nat} {h : MH} {Q : KM} (q : mEqG false (.ref a) (.ref b) h Q) : mEq (.ref a) (.ref b) h Q := by
  unfold mEq; exact q
theorem isi_go {xt : Str → M → Option Bool} {C : Str} {ks : List Str} {vs : List M} {c : M} {b : Bool} {h : MH} {Q : KM} (e : xt C c = some b) (q : Q (.bl b) h) : fIsi xt [.exc C ks vs, c] h Q := ⟨b, e, q⟩
section
variable {Q E : KM} {mh : MH} {tl : MH → KM → KM → Prop}
theorem told_val {v : M} (ht : ∀ (Qd Ed : KM), (∀ r, Qd v (mh ++ .lst [] :: r)) → tl (mh ++ [.lst []]) Qd Ed) (q : ∀ r, Q (.ref mh.length) (mh ++ .lst [v] :: r)) : r__law_told tl mh Q := by
  intro lam
  unfold w__law_told
  walk_at "mx"
  refine ⟨by decide, _, _, rfl, ?_⟩
  unfold w__law_told_1 wTryT w__law_told_1a_0 wDeed
  walk_at "mx"
  refine ⟨⟨_, _, rfl, items_lst (at_app0 _ _)⟩, ht _ _ fun r => ?_⟩
  refine ⟨_, [], v, rfl, rfl, at_app0 _ _, by decide, ?_⟩
  unfold w__law_told_2 w__law_told_2a_0
  walk_at "mx"
  simp only [mIs, Mn.isNon]
  walk_at "mx"
  simp only [if_true]
  rw [List.set_append_right _ _ (Nat.le_refl _), Nat.sub_self]
  exact q r
theorem told_num {v : M} (ht : ∀ (Qd Ed : KM), (∀ r, Ed (.exc "InvalidNumber" ["value"] [v]) (mh ++ .lst [] :: r)) → tl (mh ++ [.lst []]) Qd Ed) (q : ∀ r, Q (.tup [.str "number", v]) (mh ++ r)) : r__law_told tl mh Q := by
  intro lam
  unfold w__law_told
  walk_at "mx"
  refine ⟨by decide, _, _, rfl, ?_⟩
  unfold w__law_told_1 wTryT w__law_told_1a_0 wDeed
  walk_at "mx"
  refine ⟨⟨_, _, rfl, items_lst (at_app0 _ _)⟩, ht _ _ fun r => ?_⟩
  refine ⟨_, _, _, rfl, by decide, ?_⟩
  rw [if_pos (show xcat _ = true from rfl)]
  unfold w__law_told_1b_0 w__law_told_2 w__law_told_2a_0
  simp only [sufD]
  walk_at "mx"
  simp only [mIs, Mn.isNon]
  walk_at "mx"
  simp only [Bool.false_eq_true, if_false]
  have done : ∀ r', Q (.tup [.str "number", v]) ((mh ++ O.lst [] :: r) ++ r') := fun r' => by rw [List.append_assoc]; exact q _
  generalize mh ++ O.lst [] :: r = h0 at done
  unfold w__law_told_3
  walk_at "mx"
  refine isi_go (b := false) (by decide +kernel) (isi_go (b := false) (by decide +kernel) ⟨by decide, ?_⟩)
  unfold w__law_told_4
  walk_at "mx"
  refine isi_go (b := false) (by decide +kernel) (isi_go (b := false) (by decide +kernel) ⟨by decide, _, _, at_pre (at_app0 _ _), at_app0 _ _, by decide, ?_⟩)
  simp only [List.append_assoc, List.length_append, List.cons_append, List.nil_append, List.length_cons, List.length_nil]
  unfold w__law_told_5
  walk_at "mx"
  refine isi_go (b := true) (by decide +kernel) (isi_go (b := false) (by decide +kernel) ⟨by decide, _, _, at_pre (at_app _ _ _), at_app0 _ _, by decide, ?_⟩)
  simp only [List.append_assoc, List.length_append, List.cons_append, List.nil_append, List.length_cons, List.length_nil]
  unfold w__law_told_6
  walk_at "mx"
  refine isi_go (b := false) (by decide +kernel) (isi_go (b := false) (by decide +kernel) ⟨by decide, _, _, at_pre (at_app _ _ _), at_app0 _ _, by decide, ?_⟩)
  simp only [List.append_assoc, List.length_append, List.cons_append, List.nil_append, List.length_cons, List.length_nil]
  unfold w__law_told_7
  walk_at "mx"
  refine isi_go (b := true) (by decide +kernel) (isi_go (b := true) (by decide +kernel) ⟨by decide, ?_⟩)
  simp only [List.append_assoc, List.length_append, List.cons_append, List.nil_append, List.length_cons, List.length_nil]
  unfold w__law_told_8
  walk_at "mx"
  refine isi_go (b := false) (by decide +kernel) (isi_go (b := false) (by decide +kernel) ⟨by decide, _, _, at_pre (at_app _ _ _), at_app0 _ _, by decide, ?_⟩)
  simp only [List.append_assoc, List.length_append, List.cons_append, List.nil_append, List.length_cons, List.length_nil]
  unfold w__law_told_9
  walk_at "mx"
  have l6 : ∀ l : MH, itemsM (h0 ++ [O.lst [M.bl false, M.bl false], O.lst [M.bl false, M.bl false], O.lst [M.bl false, M.bl false, M.bl false, M.bl false], O.lst [M.bl true, M.bl false],
      O.lst [M.bl false, M.bl false, M.bl false, M.bl false, M.bl true, M.bl false], O.lst [M.bl false, M.bl false], O.lst [M.bl false, M.bl false, M.bl false, M.bl false, M.bl true, M.bl false, M.bl false, M.bl false]] ++ l) (.ref (List.length h0 + 6)) = some [M.bl false, M.bl false, M.bl false, M.bl false, M.bl true, M.bl false, M.bl false, M.bl false] := fun l => items_lst (at_pre (at_app _ _ _))
  have l7 := l6 [O.lst [M.bl true, M.bl true], O.lst [M.bl false, M.bl false], O.lst [M.bl true, M.bl true, M.bl false, M.bl false]]
  simp only [List.append_assoc, List.cons_append, List.nil_append] at l7
  refine ⟨⟨_, _, rfl, l7⟩, _, _, _, rfl, rfl, l7, rfl, rfl, ?_⟩
  refine ⟨true, rfl, ?_⟩
  rw [if_pos rfl]
  refine ⟨⟨_, _, rfl, l7⟩, _, _, _, 4, _, rfl, rfl, l7, rfl, rfl, rfl, rfl, fun m z hm hz => ?_, ?_⟩
  · match m, hm with
    | 0, _ => cases hz; rfl
    | 1, _ => cases hz; rfl
    | 2, _ => cases hz; rfl
    | 3, _ => cases hz; rfl
  clear l6 l7
  unfold w__law_told_10
  walk_at "mx"
  refine ⟨false, rfl, ?_⟩
  rw [if_neg (by decide)]
  refine ⟨by decide, ?_⟩
  refine ne_ref ?_
  refine ⟨.list [.bool true, .bool true, .bool false, .bool false], .list [.bool true, .bool true, .bool false, .bool false], pd_lst (at_pre (at_app _ _ _)) rfl, pd_lst (at_app0 _ _) rfl, by decide +kernel, by decide +kernel, ?_⟩
  refine ⟨false, congrArg M.bl (by decide +kernel), ?_⟩
  rw [if_neg (by decide), List.append_assoc]
  generalize [O.lst [M.bl false, M.bl false], O.lst [M.bl false, M.bl false], O.lst [M.bl false, M.bl false, M.bl false, M.bl false], O.lst [M.bl true, M.bl false], O.lst [M.bl false, M.bl false, M.bl false, M.bl false, M.bl true, M.bl false],
    O.lst [M.bl false, M.bl false], O.lst [M.bl false, M.bl false, M.bl false, M.bl false, M.bl true, M.bl false, M.bl false, M.bl false], O.lst [M.bl true, M.bl true], O.lst [M.bl false, M.bl false], O.lst [M.bl true, M.bl true, M.bl false, M.bl false]] ++ _ = r'
  unfold w__law_told_11
  walk_at "mx"
  refine ⟨false, rfl, ?_⟩
  rw [if_neg (by decide)]
  refine ⟨false, rfl, ?_⟩
  rw [if_neg (by decide)]
  unfold w__law_told_12
  walk_at "mx"
  refine ⟨false, rfl, ?_⟩
  rw [if_neg (by decide)]
  unfold w__law_told_13
  walk_at "mx"
  refine ⟨by decide, ?_⟩
  unfold w__law_told_14
  walk_at "mx"
  refine ix_go (items_lst (at_app0 _ _)) rfl ?_
  simp only [wXf]
  walk_at "mx"
  refine ⟨_, _, _, v, rfl, by decide, by simp [fldOf], by decide, ?_⟩
  rw [List.append_assoc]
  exact done _
end
end Lw
end
section
set_option maxHeartbeats 2000000
namespace Lw
open PySem PySem.Spec PyProof.Rows L2 Mn
local macro_rules | `(tactic| walk_at "mx") => `(tactic| simp only [wSeq, wAsgSub, gSubM, wOp, wUn, wVar, wCon, wAsg, gN, wIf, wRet, wDrop, wTst, wAndT, wOrT, wNotT, wAndV, wOrV, wIfE, wFn, wCons, wNil, wCall, wCallK, wBm, wLst, wTup, wDct0, wNext, wFor, wRng1, wSeqI, rngQ1, wPar, wRaise, wChain, mAdd, mMul, mSub, mNeg, mFdiv, mMod, mLt, mLe, mGt, mGe, mI, startM, endD, pick, List.filterMap_cons, List.filterMap_nil, List.replicate, List.map_cons, List.map_nil, List.length_cons, List.length_nil, List.cons_append, List.nil_append, List.append_nil, List.getElem?_cons_zero, List.getElem?_cons_succ, List.set_cons_zero, List.set_cons_succ, Option.some.injEq, exists_eq_left', M.bl.injEq, M.int.injEq, M.ref.injEq, decide_eq_true_eq, Nat.reduceAdd, Nat.reduceSub, Nat.zero_add, true_and, and_true])
theorem isi_ty {xt : Str → M → Option Bool} {m : M} {t T : String} {h : MH} {Q : KM} (e : tyM h m = some t) (hT : T ∈ tyList) (q : Q (.bl (isa t T)) h) : fIsi xt [m, .ty T] h Q := by
  refine ⟨_, ?_, q⟩
  unfold isiM
  split
  · rename_i e2
    cases e2
    cases e
  · rename_i e2
    cases e2
    rw [e]
    exact if_pos hT
  · rename_i n2
    exact absurd rfl (n2 m T)
def dflI (m : M) : Option (Option Int) := match m with
  | .non => some none
  | .int i => some (some i)
  | _ => none
def loB (i : Int) : Option Int → Bool
  | none => true
  | some a => decide (a ≤ i)
def hiB (i : Int) : Option Int → Bool
  | none => true
  | some b => decide (i ≤ b)
theorem isint_int {mh : MH} {i : Int} {lo hi : M} {a b : Option Int} {Q E : KM} (ha : dflI lo = some a) (hb : dflI hi = some b) (q : Q (.bl (loB i a && hiB i b)) mh) : r_is_integer [.int i, lo, hi] mh Q E := by
  refine ⟨rfl, ?_⟩
  unfold w_is_integer w_is_integer_1
  walk_at "mx"
  refine isi_ty rfl (by decide) ⟨_, rfl, ?_⟩
  rw [if_neg (by decide)]
  refine isi_ty rfl (by decide) ⟨_, rfl, ?_⟩
  rw [if_neg (by decide)]
  cases lo with
  | non =>
    cases ha
    refine ⟨true, rfl, ?_⟩
    rw [if_pos rfl, if_pos trivial]
    cases hi with
    | non => cases hb; exact ⟨true, rfl, by rw [if_pos rfl]; exact q⟩
    | int y => cases hb; exact ⟨false, rfl, q⟩
    | _ => cases hb
  | int y =>
    cases ha
    refine ⟨false, rfl, ?_⟩
    rw [if_neg (by decide)]
    dsimp only
    by_cases hy : y ≤ i
    · rw [if_pos hy]
      cases hi with
      | non => cases hb; exact ⟨true, rfl, by rw [if_pos rfl]; simpa [loB, hiB, hy] using q⟩
      | int z => cases hb; exact ⟨false, rfl, by rw [if_neg (by decide)]; simpa [loB, hiB, hy] using q⟩
      | _ => cases hb
    · rw [if_neg hy]
      simpa [loB, hy] using q
  | _ => cases ha
theorem isint_odd {mh : MH} {m lo hi : M} {t : String} {Q E : KM} (ht : tyM mh m = some t) (hn : t ≠ "int") (hm : t ∈ tyList) (q : Q (.bl false) mh) : r_is_integer [m, lo, hi] mh Q E := by
  refine ⟨rfl, ?_⟩
  unfold w_is_integer w_is_integer_0a_0
  walk_at "mx"
  refine isi_ty ht (by decide) ⟨_, rfl, ?_⟩
  by_cases h : (!isa t "int") = true
  · rw [if_pos h]; exact q
  · rw [if_neg h]
    refine isi_ty ht (by decide) ⟨_, rfl, ?_⟩
    have : isa t "bool" = true := by
      simp only [tyList, List.mem_cons, List.not_mem_nil, or_false] at hm
      rcases hm with rfl | rfl | rfl | rfl | rfl | rfl | rfl <;> first | rfl | exact absurd rfl hn | exact absurd rfl h
    rw [if_pos this]
    exact q
end Lw
end
section
set_option maxHeartbeats 2000000
namespace Lw
open PySem PySem.Spec PyProof.Rows L2 Mn
local macro_rules | `(tactic| walk_at "mx") => `(tactic| simp only [wSeq, wAsgSub, gSubM, wOp, wUn, wVar, wCon, wAsg, gN, wIf, wRet, wDrop, wTst, wAndT, wOrT, wNotT, wAndV, wOrV, wIfE, wFn, wCons, wNil, wCall, wCallK, wBm, wLst, wTup, wDct0, wNext, wFor, wRng1, wSeqI, rngQ1, wPar, wRaise, wChain, mAdd, mMul, mSub, mNeg, mFdiv, mMod, mLt, mLe, mGt, mGe, mI, startM, endD, pick, List.filterMap_cons, List.filterMap_nil, List.replicate, List.map_cons, List.map_nil, List.length_cons, List.length_nil, List.cons_append, List.nil_append, List.append_nil, List.getElem?_cons_zero, List.getElem?_cons_succ, List.set_cons_zero, List.set_cons_succ, Option.some.injEq, exists_eq_left', M.bl.injEq, M.int.injEq, M.ref.injEq, decide_eq_true_eq, Nat.reduceAdd, Nat.reduceSub, Nat.zero_add, true_and, and_true])
section
variable {Q E : KM} {mh : MH} {tl : MH → KM → KM → Prop}
theorem told_InvalidPlace {v : M} (ht : ∀ (Qd Ed : KM), (∀ r, Ed (.exc "InvalidPlace" ["value"] [v]) (mh ++ .lst [] :: r)) → tl (mh ++ [.lst []]) Qd Ed) (q : ∀ r, Q (.tup [.str "place", v]) (mh ++ r)) : r__law_told tl mh Q := by
  intro lam
  unfold w__law_told
  walk_at "mx"
  refine ⟨by decide, _, _, rfl, ?_⟩
  unfold w__law_told_1 wTryT w__law_told_1a_0 wDeed
  walk_at "mx"
  refine ⟨⟨_, _, rfl, items_lst (at_app0 _ _)⟩, ht _ _ fun r => ?_⟩
  refine ⟨_, _, _, rfl, by decide, ?_⟩
  rw [if_pos (show xcat _ = true from rfl)]
  unfold w__law_told_1b_0 w__law_told_2 w__law_told_2a_0
  simp only [sufD]
  walk_at "mx"
  simp only [mIs, Mn.isNon]
  walk_at "mx"
  simp only [Bool.false_eq_true, if_false]
  have done : ∀ r', Q (.tup [.str "place", v]) ((mh ++ O.lst [] :: r) ++ r') := fun r' => by rw [List.append_assoc]; exact q _
  generalize mh ++ O.lst [] :: r = h0 at done
  unfold w__law_told_3
  walk_at "mx"
  refine isi_go (b := true) (by decide +kernel) (isi_go (b := false) (by decide +kernel) ⟨by decide, ?_⟩)
  unfold w__law_told_4
  walk_at "mx"
  refine isi_go (b := false) (by decide +kernel) (isi_go (b := false) (by decide +kernel) ⟨by decide, _, _, at_pre (at_app0 _ _), at_app0 _ _, by decide, ?_⟩)
  simp only [List.append_assoc, List.length_append, List.cons_append, List.nil_append, List.length_cons, List.length_nil]
  unfold w__law_told_5
  walk_at "mx"
  refine isi_go (b := false) (by decide +kernel) (isi_go (b := false) (by decide +kernel) ⟨by decide, _, _, at_pre (at_app _ _ _), at_app0 _ _, by decide, ?_⟩)
  simp only [List.append_assoc, List.length_append, List.cons_append, List.nil_append, List.length_cons, List.length_nil]
  unfold w__law_told_6
  walk_at "mx"
  refine isi_go (b := false) (by decide +kernel) (isi_go (b := false) (by decide +kernel) ⟨by decide, _, _, at_pre (at_app _ _ _), at_app0 _ _, by decide, ?_⟩)
  simp only [List.append_assoc, List.length_append, List.cons_append, List.nil_append, List.length_cons, List.length_nil]
  unfold w__law_told_7
  walk_at "mx"
  refine isi_go (b := true) (by decide +kernel) (isi_go (b := true) (by decide +kernel) ⟨by decide, ?_⟩)
  simp only [List.append_assoc, List.length_append, List.cons_append, List.nil_append, List.length_cons, List.length_nil]
  unfold w__law_told_8
  walk_at "mx"
  refine isi_go (b := false) (by decide +kernel) (isi_go (b := false) (by decide +kernel) ⟨by decide, _, _, at_pre (at_app _ _ _), at_app0 _ _, by decide, ?_⟩)
  simp only [List.append_assoc, List.length_append, List.cons_append, List.nil_append, List.length_cons, List.length_nil]
  unfold w__law_told_9
  walk_at "mx"
  have l6 : ∀ l : MH, itemsM (h0 ++ [O.lst [M.bl true, M.bl false], O.lst [M.bl false, M.bl false], O.lst [M.bl true, M.bl false, M.bl false, M.bl false], O.lst [M.bl false, M.bl false], O.lst [M.bl true, M.bl false, M.bl false, M.bl false, M.bl false, M.bl false], O.lst [M.bl false, M.bl false], O.lst [M.bl true, M.bl false, M.bl false, M.bl false, M.bl false, M.bl false, M.bl false, M.bl false]] ++ l) (.ref (List.length h0 + 6)) = some [M.bl true, M.bl false, M.bl false, M.bl false, M.bl false, M.bl false, M.bl false, M.bl false] := fun l => items_lst (at_pre (at_app _ _ _))
  have l7 := l6 [O.lst [M.bl true, M.bl true], O.lst [M.bl false, M.bl false], O.lst [M.bl true, M.bl true, M.bl false, M.bl false]]
  simp only [List.append_assoc, List.cons_append, List.nil_append] at l7
  refine ⟨⟨_, _, rfl, l7⟩, _, _, _, rfl, rfl, l7, rfl, rfl, ?_⟩
  refine ⟨true, rfl, ?_⟩
  rw [if_pos rfl]
  refine ⟨⟨_, _, rfl, l7⟩, _, _, _, 0, _, rfl, rfl, l7, rfl, rfl, rfl, rfl, fun m z hm hz => ?_, ?_⟩
  · exact absurd hm (Nat.not_lt_zero _)
  clear l6 l7
  unfold w__law_told_10
  walk_at "mx"
  refine ⟨false, rfl, ?_⟩
  rw [if_neg (by decide)]
  refine ⟨by decide, ?_⟩
  refine ne_ref ?_
  refine ⟨.list [.bool true, .bool true, .bool false, .bool false], .list [.bool true, .bool true, .bool false, .bool false], pd_lst (at_pre (at_app _ _ _)) rfl, pd_lst (at_app0 _ _) rfl, by decide +kernel, by decide +kernel, ?_⟩
  refine ⟨false, congrArg M.bl (by decide +kernel), ?_⟩
  rw [if_neg (by decide), List.append_assoc]
  generalize [O.lst [M.bl true, M.bl false], O.lst [M.bl false, M.bl false], O.lst [M.bl true, M.bl false, M.bl false, M.bl false], O.lst [M.bl false, M.bl false], O.lst [M.bl true, M.bl false, M.bl false, M.bl false, M.bl false, M.bl false], O.lst [M.bl false, M.bl false], O.lst [M.bl true, M.bl false, M.bl false, M.bl false, M.bl false, M.bl false, M.bl false, M.bl false], O.lst [M.bl true, M.bl true], O.lst [M.bl false, M.bl false], O.lst [M.bl true, M.bl true, M.bl false, M.bl false]] ++ _ = r'
  unfold w__law_told_11
  walk_at "mx"
  refine ⟨false, rfl, ?_⟩
  rw [if_neg (by decide)]
  refine ⟨false, rfl, ?_⟩
  rw [if_neg (by decide)]
  unfold w__law_told_12
  walk_at "mx"
  refine ⟨false, rfl, ?_⟩
  rw [if_neg (by decide)]
  unfold w__law_told_13
  walk_at "mx"
  refine ⟨by decide, ?_⟩
  unfold w__law_told_14
  walk_at "mx"
  refine ix_go (items_lst (at_app0 _ _)) rfl ?_
  simp only [wXf]
  walk_at "mx"
  refine ⟨_, _, _, v, rfl, by decide, by simp [fldOf], by decide, ?_⟩
  rw [List.append_assoc]
  exact done _
theorem told_InvalidDistance {v : M} (ht : ∀ (Qd Ed : KM), (∀ r, Ed (.exc "InvalidDistance" ["value"] [v]) (mh ++ .lst [] :: r)) → tl (mh ++ [.lst []]) Qd Ed) (q : ∀ r, Q (.tup [.str "distance", v]) (mh ++ r)) : r__law_told tl mh Q := by
  intro lam
  unfold w__law_told
  walk_at "mx"
  refine ⟨by decide, _, _, rfl, ?_⟩
  unfold w__law_told_1 wTryT w__law_told_1a_0 wDeed
  walk_at "mx"
  refine ⟨⟨_, _, rfl, items_lst (at_app0 _ _)⟩, ht _ _ fun r => ?_⟩
  refine ⟨_, _, _, rfl, by decide, ?_⟩
  rw [if_pos (show xcat _ = true from rfl)]
  unfold w__law_told_1b_0 w__law_told_2 w__law_told_2a_0
  simp only [sufD]
  walk_at "mx"
  simp only [mIs, Mn.isNon]
  walk_at "mx"
  simp only [Bool.false_eq_true, if_false]
  have done : ∀ r', Q (.tup [.str "distance", v]) ((mh ++ O.lst [] :: r) ++ r') := fun r' => by rw [List.append_assoc]; exact q _
  generalize mh ++ O.lst [] :: r = h0 at done
  unfold w__law_told_3
  walk_at "mx"
  refine isi_go (b := false) (by decide +kernel) (isi_go (b := true) (by decide +kernel) ⟨by decide, ?_⟩)
  unfold w__law_told_4
  walk_at "mx"
  refine isi_go (b := false) (by decide +kernel) (isi_go (b := false) (by decide +kernel) ⟨by decide, _, _, at_pre (at_app0 _ _), at_app0 _ _, by decide, ?_⟩)
  simp only [List.append_assoc, List.length_append, List.cons_append, List.nil_append, List.length_cons, List.length_nil]
  unfold w__law_told_5
  walk_at "mx"
  refine isi_go (b := false) (by decide +kernel) (isi_go (b := false) (by decide +kernel) ⟨by decide, _, _, at_pre (at_app _ _ _), at_app0 _ _, by decide, ?_⟩)
  simp only [List.append_assoc, List.length_append, List.cons_append, List.nil_append, List.length_cons, List.length_nil]
  unfold w__law_told_6
  walk_at "mx"
  refine isi_go (b := false) (by decide +kernel) (isi_go (b := false) (by decide +kernel) ⟨by decide, _, _, at_pre (at_app _ _ _), at_app0 _ _, by decide, ?_⟩)
  simp only [List.append_assoc, List.length_append, List.cons_append, List.nil_append, List.length_cons, List.length_nil]
  unfold w__law_told_7
  walk_at "mx"
  refine isi_go (b := true) (by decide +kernel) (isi_go (b := true) (by decide +kernel) ⟨by decide, ?_⟩)
  simp only [List.append_assoc, List.length_append, List.cons_append, List.nil_append, List.length_cons, List.length_nil]
  unfold w__law_told_8
  walk_at "mx"
  refine isi_go (b := false) (by decide +kernel) (isi_go (b := false) (by decide +kernel) ⟨by decide, _, _, at_pre (at_app _ _ _), at_app0 _ _, by decide, ?_⟩)
  simp only [List.append_assoc, List.length_append, List.cons_append, List.nil_append, List.length_cons, List.length_nil]
  unfold w__law_told_9
  walk_at "mx"
  have l6 : ∀ l : MH, itemsM (h0 ++ [O.lst [M.bl false, M.bl true], O.lst [M.bl false, M.bl false], O.lst [M.bl false, M.bl true, M.bl false, M.bl false], O.lst [M.bl false, M.bl false], O.lst [M.bl false, M.bl true, M.bl false, M.bl false, M.bl false, M.bl false], O.lst [M.bl false, M.bl false], O.lst [M.bl false, M.bl true, M.bl false, M.bl false, M.bl false, M.bl false, M.bl false, M.bl false]] ++ l) (.ref (List.length h0 + 6)) = some [M.bl false, M.bl true, M.bl false, M.bl false, M.bl false, M.bl false, M.bl false, M.bl false] := fun l => items_lst (at_pre (at_app _ _ _))
  have l7 := l6 [O.lst [M.bl true, M.bl true], O.lst [M.bl false, M.bl false], O.lst [M.bl true, M.bl true, M.bl false, M.bl false]]
  simp only [List.append_assoc, List.cons_append, List.nil_append] at l7
  refine ⟨⟨_, _, rfl, l7⟩, _, _, _, rfl, rfl, l7, rfl, rfl, ?_⟩
  refine ⟨true, rfl, ?_⟩
  rw [if_pos rfl]
  refine ⟨⟨_, _, rfl, l7⟩, _, _, _, 1, _, rfl, rfl, l7, rfl, rfl, rfl, rfl, fun m z hm hz => ?_, ?_⟩
  · match m, hm with
    | 0, _ => cases hz; rfl
  clear l6 l7
  unfold w__law_told_10
  walk_at "mx"
  refine ⟨false, rfl, ?_⟩
  rw [if_neg (by decide)]
  refine ⟨by decide, ?_⟩
  refine ne_ref ?_
  refine ⟨.list [.bool true, .bool true, .bool false, .bool false], .list [.bool true, .bool true, .bool false, .bool false], pd_lst (at_pre (at_app _ _ _)) rfl, pd_lst (at_app0 _ _) rfl, by decide +kernel, by decide +kernel, ?_⟩
  refine ⟨false, congrArg M.bl (by decide +kernel), ?_⟩
  rw [if_neg (by decide), List.append_assoc]
  generalize [O.lst [M.bl false, M.bl true], O.lst [M.bl false, M.bl false], O.lst [M.bl false, M.bl true, M.bl false, M.bl false], O.lst [M.bl false, M.bl false], O.lst [M.bl false, M.bl true, M.bl false, M.bl false, M.bl false, M.bl false], O.lst [M.bl false, M.bl false], O.lst [M.bl false, M.bl true, M.bl false, M.bl false, M.bl false, M.bl false, M.bl false, M.bl false], O.lst [M.bl true, M.bl true], O.lst [M.bl false, M.bl false], O.lst [M.bl true, M.bl true, M.bl false, M.bl false]] ++ _ = r'
  unfold w__law_told_11
  walk_at "mx"
  refine ⟨false, rfl, ?_⟩
  rw [if_neg (by decide)]
  refine ⟨false, rfl, ?_⟩
  rw [if_neg (by decide)]
  unfold w__law_told_12
  walk_at "mx"
  refine ⟨false, rfl, ?_⟩
  rw [if_neg (by decide)]
  unfold w__law_told_13
  walk_at "mx"
  refine ⟨by decide, ?_⟩
  unfold w__law_told_14
  walk_at "mx"
  refine ix_go (items_lst (at_app0 _ _)) rfl ?_
  simp only [wXf]
  walk_at "mx"
  refine ⟨_, _, _, v, rfl, by decide, by simp [fldOf], by decide, ?_⟩
  rw [List.append_assoc]
  exact done _
theorem told_InvalidBag {v : M} (ht : ∀ (Qd Ed : KM), (∀ r, Ed (.exc "InvalidBag" ["position"] [v]) (mh ++ .lst [] :: r)) → tl (mh ++ [.lst []]) Qd Ed) (q : ∀ r, Q (.tup [.str "bag", v]) (mh ++ r)) : r__law_told tl mh Q := by
  intro lam
  unfold w__law_told
  walk_at "mx"
  refine ⟨by decide, _, _, rfl, ?_⟩
  unfold w__law_told_1 wTryT w__law_told_1a_0 wDeed
  walk_at "mx"
  refine ⟨⟨_, _, rfl, items_lst (at_app0 _ _)⟩, ht _ _ fun r => ?_⟩
  refine ⟨_, _, _, rfl, by decide, ?_⟩
  rw [if_pos (show xcat _ = true from rfl)]
  unfold w__law_told_1b_0 w__law_told_2 w__law_told_2a_0
  simp only [sufD]
  walk_at "mx"
  simp only [mIs, Mn.isNon]
  walk_at "mx"
  simp only [Bool.false_eq_true, if_false]
  have done : ∀ r', Q (.tup [.str "bag", v]) ((mh ++ O.lst [] :: r) ++ r') := fun r' => by rw [List.append_assoc]; exact q _
  generalize mh ++ O.lst [] :: r = h0 at done
  unfold w__law_told_3
  walk_at "mx"
  refine isi_go (b := false) (by decide +kernel) (isi_go (b := false) (by decide +kernel) ⟨by decide, ?_⟩)
  unfold w__law_told_4
  walk_at "mx"
  refine isi_go (b := true) (by decide +kernel) (isi_go (b := false) (by decide +kernel) ⟨by decide, _, _, at_pre (at_app0 _ _), at_app0 _ _, by decide, ?_⟩)
  simp only [List.append_assoc, List.length_append, List.cons_append, List.nil_append, List.length_cons, List.length_nil]
  unfold w__law_told_5
  walk_at "mx"
  refine isi_go (b := false) (by decide +kernel) (isi_go (b := false) (by decide +kernel) ⟨by decide, _, _, at_pre (at_app _ _ _), at_app0 _ _, by decide, ?_⟩)
  simp only [List.append_assoc, List.length_append, List.cons_append, List.nil_append, List.length_cons, List.length_nil]
  unfold w__law_told_6
  walk_at "mx"
  refine isi_go (b := false) (by decide +kernel) (isi_go (b := false) (by decide +kernel) ⟨by decide, _, _, at_pre (at_app _ _ _), at_app0 _ _, by decide, ?_⟩)
  simp only [List.append_assoc, List.length_append, List.cons_append, List.nil_append, List.length_cons, List.length_nil]
  unfold w__law_told_7
  walk_at "mx"
  refine isi_go (b := true) (by decide +kernel) (isi_go (b := true) (by decide +kernel) ⟨by decide, ?_⟩)
  simp only [List.append_assoc, List.length_append, List.cons_append, List.nil_append, List.length_cons, List.length_nil]
  unfold w__law_told_8
  walk_at "mx"
  refine isi_go (b := false) (by decide +kernel) (isi_go (b := false) (by decide +kernel) ⟨by decide, _, _, at_pre (at_app _ _ _), at_app0 _ _, by decide, ?_⟩)
  simp only [List.append_assoc, List.length_append, List.cons_append, List.nil_append, List.length_cons, List.length_nil]
  unfold w__law_told_9
  walk_at "mx"
  have l6 : ∀ l : MH, itemsM (h0 ++ [O.lst [M.bl false, M.bl false], O.lst [M.bl true, M.bl false], O.lst [M.bl false, M.bl false, M.bl true, M.bl false], O.lst [M.bl false, M.bl false], O.lst [M.bl false, M.bl false, M.bl true, M.bl false, M.bl false, M.bl false], O.lst [M.bl false, M.bl false], O.lst [M.bl false, M.bl false, M.bl true, M.bl false, M.bl false, M.bl false, M.bl false, M.bl false]] ++ l) (.ref (List.length h0 + 6)) = some [M.bl false, M.bl false, M.bl true, M.bl false, M.bl false, M.bl false, M.bl false, M.bl false] := fun l => items_lst (at_pre (at_app _ _ _))
  have l7 := l6 [O.lst [M.bl true, M.bl true], O.lst [M.bl false, M.bl false], O.lst [M.bl true, M.bl true, M.bl false, M.bl false]]
  simp only [List.append_assoc, List.cons_append, List.nil_append] at l7
  refine ⟨⟨_, _, rfl, l7⟩, _, _, _, rfl, rfl, l7, rfl, rfl, ?_⟩
  refine ⟨true, rfl, ?_⟩
  rw [if_pos rfl]
  refine ⟨⟨_, _, rfl, l7⟩, _, _, _, 2, _, rfl, rfl, l7, rfl, rfl, rfl, rfl, fun m z hm hz => ?_, ?_⟩
  · match m, hm with
    | 0, _ => cases hz; rfl
    | 1, _ => cases hz; rfl
  clear l6 l7
  unfold w__law_told_10
  walk_at "mx"
  refine ⟨false, rfl, ?_⟩
  rw [if_neg (by decide)]
  refine ⟨by decide, ?_⟩
  refine ne_ref ?_
  refine ⟨.list [.bool true, .bool true, .bool false, .bool false], .list [.bool true, .bool true, .bool false, .bool false], pd_lst (at_pre (at_app _ _ _)) rfl, pd_lst (at_app0 _ _) rfl, by decide +kernel, by decide +kernel, ?_⟩
  refine ⟨false, congrArg M.bl (by decide +kernel), ?_⟩
  rw [if_neg (by decide), List.append_assoc]
  generalize [O.lst [M.bl false, M.bl false], O.lst [M.bl true, M.bl false], O.lst [M.bl false, M.bl false, M.bl true, M.bl false], O.lst [M.bl false, M.bl false], O.lst [M.bl false, M.bl false, M.bl true, M.bl false, M.bl false, M.bl false], O.lst [M.bl false, M.bl false], O.lst [M.bl false, M.bl false, M.bl true, M.bl false, M.bl false, M.bl false, M.bl false, M.bl false], O.lst [M.bl true, M.bl true], O.lst [M.bl false, M.bl false], O.lst [M.bl true, M.bl true, M.bl false, M.bl false]] ++ _ = r'
  unfold w__law_told_11
  walk_at "mx"
  refine ⟨true, rfl, ?_⟩
  rw [if_pos rfl]
  unfold w__law_told_11a_0
  walk_at "mx"
  refine ⟨by decide, ?_⟩
  refine ix_go (items_lst (at_app0 _ _)) rfl ?_
  simp only [wXf]
  walk_at "mx"
  refine ⟨_, _, _, v, rfl, by decide, by simp [fldOf], by decide, ?_⟩
  rw [List.append_assoc]
  exact done _
theorem told_InvalidRow {v : M} (ht : ∀ (Qd Ed : KM), (∀ r, Ed (.exc "InvalidRow" ["position"] [v]) (mh ++ .lst [] :: r)) → tl (mh ++ [.lst []]) Qd Ed) (q : ∀ r, Q (.tup [.str "row", v]) (mh ++ r)) : r__law_told tl mh Q := by
  intro lam
  unfold w__law_told
  walk_at "mx"
  refine ⟨by decide, _, _, rfl, ?_⟩
  unfold w__law_told_1 wTryT w__law_told_1a_0 wDeed
  walk_at "mx"
  refine ⟨⟨_, _, rfl, items_lst (at_app0 _ _)⟩, ht _ _ fun r => ?_⟩
  refine ⟨_, _, _, rfl, by decide, ?_⟩
  rw [if_pos (show xcat _ = true from rfl)]
  unfold w__law_told_1b_0 w__law_told_2 w__law_told_2a_0
  simp only [sufD]
  walk_at "mx"
  simp only [mIs, Mn.isNon]
  walk_at "mx"
  simp only [Bool.false_eq_true, if_false]
  have done : ∀ r', Q (.tup [.str "row", v]) ((mh ++ O.lst [] :: r) ++ r') := fun r' => by rw [List.append_assoc]; exact q _
  generalize mh ++ O.lst [] :: r = h0 at done
  unfold w__law_told_3
  walk_at "mx"
  refine isi_go (b := false) (by decide +kernel) (isi_go (b := false) (by decide +kernel) ⟨by decide, ?_⟩)
  unfold w__law_told_4
  walk_at "mx"
  refine isi_go (b := false) (by decide +kernel) (isi_go (b := true) (by decide +kernel) ⟨by decide, _, _, at_pre (at_app0 _ _), at_app0 _ _, by decide, ?_⟩)
  simp only [List.append_assoc, List.length_append, List.cons_append, List.nil_append, List.length_cons, List.length_nil]
  unfold w__law_told_5
  walk_at "mx"
  refine isi_go (b := false) (by decide +kernel) (isi_go (b := false) (by decide +kernel) ⟨by decide, _, _, at_pre (at_app _ _ _), at_app0 _ _, by decide, ?_⟩)
  simp only [List.append_assoc, List.length_append, List.cons_append, List.nil_append, List.length_cons, List.length_nil]
  unfold w__law_told_6
  walk_at "mx"
  refine isi_go (b := false) (by decide +kernel) (isi_go (b := false) (by decide +kernel) ⟨by decide, _, _, at_pre (at_app _ _ _), at_app0 _ _, by decide, ?_⟩)
  simp only [List.append_assoc, List.length_append, List.cons_append, List.nil_append, List.length_cons, List.length_nil]
  unfold w__law_told_7
  walk_at "mx"
  refine isi_go (b := true) (by decide +kernel) (isi_go (b := true) (by decide +kernel) ⟨by decide, ?_⟩)
  simp only [List.append_assoc, List.length_append, List.cons_append, List.nil_append, List.length_cons, List.length_nil]
  unfold w__law_told_8
  walk_at "mx"
  refine isi_go (b := false) (by decide +kernel) (isi_go (b := false) (by decide +kernel) ⟨by decide, _, _, at_pre (at_app _ _ _), at_app0 _ _, by decide, ?_⟩)
  simp only [List.append_assoc, List.length_append, List.cons_append, List.nil_append, List.length_cons, List.length_nil]
  unfold w__law_told_9
  walk_at "mx"
  have l6 : ∀ l : MH, itemsM (h0 ++ [O.lst [M.bl false, M.bl false], O.lst [M.bl false, M.bl true], O.lst [M.bl false, M.bl false, M.bl false, M.bl true], O.lst [M.bl false, M.bl false], O.lst [M.bl false, M.bl false, M.bl false, M.bl true, M.bl false, M.bl false], O.lst [M.bl false, M.bl false], O.lst [M.bl false, M.bl false, M.bl false, M.bl true, M.bl false, M.bl false, M.bl false, M.bl false]] ++ l) (.ref (List.length h0 + 6)) = some [M.bl false, M.bl false, M.bl false, M.bl true, M.bl false, M.bl false, M.bl false, M.bl false] := fun l => items_lst (at_pre (at_app _ _ _))
  have l7 := l6 [O.lst [M.bl true, M.bl true], O.lst [M.bl false, M.bl false], O.lst [M.bl true, M.bl true, M.bl false, M.bl false]]
  simp only [List.append_assoc, List.cons_append, List.nil_append] at l7
  refine ⟨⟨_, _, rfl, l7⟩, _, _, _, rfl, rfl, l7, rfl, rfl, ?_⟩
  refine ⟨true, rfl, ?_⟩
  rw [if_pos rfl]
  refine ⟨⟨_, _, rfl, l7⟩, _, _, _, 3, _, rfl, rfl, l7, rfl, rfl, rfl, rfl, fun m z hm hz => ?_, ?_⟩
  · match m, hm with
    | 0, _ => cases hz; rfl
    | 1, _ => cases hz; rfl
    | 2, _ => cases hz; rfl
  clear l6 l7
  unfold w__law_told_10
  walk_at "mx"
  refine ⟨false, rfl, ?_⟩
  rw [if_neg (by decide)]
  refine ⟨by decide, ?_⟩
  refine ne_ref ?_
  refine ⟨.list [.bool true, .bool true, .bool false, .bool false], .list [.bool true, .bool true, .bool false, .bool false], pd_lst (at_pre (at_app _ _ _)) rfl, pd_lst (at_app0 _ _) rfl, by decide +kernel, by decide +kernel, ?_⟩
  refine ⟨false, congrArg M.bl (by decide +kernel), ?_⟩
  rw [if_neg (by decide), List.append_assoc]
  generalize [O.lst [M.bl false, M.bl false], O.lst [M.bl false, M.bl true], O.lst [M.bl false, M.bl false, M.bl false, M.bl true], O.lst [M.bl false, M.bl false], O.lst [M.bl false, M.bl false, M.bl false, M.bl true, M.bl false, M.bl false], O.lst [M.bl false, M.bl false], O.lst [M.bl false, M.bl false, M.bl false, M.bl true, M.bl false, M.bl false, M.bl false, M.bl false], O.lst [M.bl true, M.bl true], O.lst [M.bl false, M.bl false], O.lst [M.bl true, M.bl true, M.bl false, M.bl false]] ++ _ = r'
  unfold w__law_told_11
  walk_at "mx"
  refine ⟨false, rfl, ?_⟩
  rw [if_neg (by decide)]
  refine ⟨true, rfl, ?_⟩
  rw [if_pos rfl]
  unfold w__law_told_11a_0
  walk_at "mx"
  refine ⟨by decide, ?_⟩
  refine ix_go (items_lst (at_app0 _ _)) rfl ?_
  simp only [wXf]
  walk_at "mx"
  refine ⟨_, _, _, v, rfl, by decide, by simp [fldOf], by decide, ?_⟩
  rw [List.append_assoc]
  exact done _
theorem told_NoStone {v : M} (ht : ∀ (Qd Ed : KM), (∀ r, Ed (.exc "NoStone" ["value"] [v]) (mh ++ .lst [] :: r)) → tl (mh ++ [.lst []]) Qd Ed) (q : ∀ r, Q (.tup [.str "stone", v]) (mh ++ r)) : r__law_told tl mh Q := by
  intro lam
  unfold w__law_told
  walk_at "mx"
  refine ⟨by decide, _, _, rfl, ?_⟩
  unfold w__law_told_1 wTryT w__law_told_1a_0 wDeed
  walk_at "mx"
  refine ⟨⟨_, _, rfl, items_lst (at_app0 _ _)⟩, ht _ _ fun r => ?_⟩
  refine ⟨_, _, _, rfl, by decide, ?_⟩
  rw [if_pos (show xcat _ = true from rfl)]
  unfold w__law_told_1b_0 w__law_told_2 w__law_told_2a_0
  simp only [sufD]
  walk_at "mx"
  simp only [mIs, Mn.isNon]
  walk_at "mx"
  simp only [Bool.false_eq_true, if_false]
  have done : ∀ r', Q (.tup [.str "stone", v]) ((mh ++ O.lst [] :: r) ++ r') := fun r' => by rw [List.append_assoc]; exact q _
  generalize mh ++ O.lst [] :: r = h0 at done
  unfold w__law_told_3
  walk_at "mx"
  refine isi_go (b := false) (by decide +kernel) (isi_go (b := false) (by decide +kernel) ⟨by decide, ?_⟩)
  unfold w__law_told_4
  walk_at "mx"
  refine isi_go (b := false) (by decide +kernel) (isi_go (b := false) (by decide +kernel) ⟨by decide, _, _, at_pre (at_app0 _ _), at_app0 _ _, by decide, ?_⟩)
  simp only [List.append_assoc, List.length_append, List.cons_append, List.nil_append, List.length_cons, List.length_nil]
  unfold w__law_told_5
  walk_at "mx"
  refine isi_go (b := false) (by decide +kernel) (isi_go (b := true) (by decide +kernel) ⟨by decide, _, _, at_pre (at_app _ _ _), at_app0 _ _, by decide, ?_⟩)
  simp only [List.append_assoc, List.length_append, List.cons_append, List.nil_append, List.length_cons, List.length_nil]
  unfold w__law_told_6
  walk_at "mx"
  refine isi_go (b := false) (by decide +kernel) (isi_go (b := false) (by decide +kernel) ⟨by decide, _, _, at_pre (at_app _ _ _), at_app0 _ _, by decide, ?_⟩)
  simp only [List.append_assoc, List.length_append, List.cons_append, List.nil_append, List.length_cons, List.length_nil]
  unfold w__law_told_7
  walk_at "mx"
  refine isi_go (b := false) (by decide +kernel) (isi_go (b := false) (by decide +kernel) ⟨by decide, ?_⟩)
  simp only [List.append_assoc, List.length_append, List.cons_append, List.nil_append, List.length_cons, List.length_nil]
  unfold w__law_told_8
  walk_at "mx"
  refine isi_go (b := true) (by decide +kernel) (isi_go (b := true) (by decide +kernel) ⟨by decide, _, _, at_pre (at_app _ _ _), at_app0 _ _, by decide, ?_⟩)
  simp only [List.append_assoc, List.length_append, List.cons_append, List.nil_append, List.length_cons, List.length_nil]
  unfold w__law_told_9
  walk_at "mx"
  have l6 : ∀ l : MH, itemsM (h0 ++ [O.lst [M.bl false, M.bl false], O.lst [M.bl false, M.bl false], O.lst [M.bl false, M.bl false, M.bl false, M.bl false], O.lst [M.bl false, M.bl true], O.lst [M.bl false, M.bl false, M.bl false, M.bl false, M.bl false, M.bl true], O.lst [M.bl false, M.bl false], O.lst [M.bl false, M.bl false, M.bl false, M.bl false, M.bl false, M.bl true, M.bl false, M.bl false]] ++ l) (.ref (List.length h0 + 6)) = some [M.bl false, M.bl false, M.bl false, M.bl false, M.bl false, M.bl true, M.bl false, M.bl false] := fun l => items_lst (at_pre (at_app _ _ _))
  have l7 := l6 [O.lst [M.bl false, M.bl false], O.lst [M.bl true, M.bl true], O.lst [M.bl false, M.bl false, M.bl true, M.bl true]]
  simp only [List.append_assoc, List.cons_append, List.nil_append] at l7
  refine ⟨⟨_, _, rfl, l7⟩, _, _, _, rfl, rfl, l7, rfl, rfl, ?_⟩
  refine ⟨true, rfl, ?_⟩
  rw [if_pos rfl]
  refine ⟨⟨_, _, rfl, l7⟩, _, _, _, 5, _, rfl, rfl, l7, rfl, rfl, rfl, rfl, fun m z hm hz => ?_, ?_⟩
  · match m, hm with
    | 0, _ => cases hz; rfl
    | 1, _ => cases hz; rfl
    | 2, _ => cases hz; rfl
    | 3, _ => cases hz; rfl
    | 4, _ => cases hz; rfl
  clear l6 l7
  unfold w__law_told_10
  walk_at "mx"
  refine ⟨false, rfl, ?_⟩
  rw [if_neg (by decide)]
  refine ⟨by decide, ?_⟩
  refine ne_ref ?_
  refine ⟨.list [.bool false, .bool false, .bool true, .bool true], .list [.bool false, .bool false, .bool true, .bool true], pd_lst (at_pre (at_app _ _ _)) rfl, pd_lst (at_app0 _ _) rfl, by decide +kernel, by decide +kernel, ?_⟩
  refine ⟨false, congrArg M.bl (by decide +kernel), ?_⟩
  rw [if_neg (by decide), List.append_assoc]
  generalize [O.lst [M.bl false, M.bl false], O.lst [M.bl false, M.bl false], O.lst [M.bl false, M.bl false, M.bl false, M.bl false], O.lst [M.bl false, M.bl true], O.lst [M.bl false, M.bl false, M.bl false, M.bl false, M.bl false, M.bl true], O.lst [M.bl false, M.bl false], O.lst [M.bl false, M.bl false, M.bl false, M.bl false, M.bl false, M.bl true, M.bl false, M.bl false], O.lst [M.bl false, M.bl false], O.lst [M.bl true, M.bl true], O.lst [M.bl false, M.bl false, M.bl true, M.bl true]] ++ _ = r'
  unfold w__law_told_11
  walk_at "mx"
  refine ⟨false, rfl, ?_⟩
  rw [if_neg (by decide)]
  refine ⟨false, rfl, ?_⟩
  rw [if_neg (by decide)]
  unfold w__law_told_12
  walk_at "mx"
  refine ⟨false, rfl, ?_⟩
  rw [if_neg (by decide)]
  unfold w__law_told_13
  walk_at "mx"
  refine ⟨by decide, ?_⟩
  unfold w__law_told_14
  walk_at "mx"
  refine ix_go (items_lst (at_app0 _ _)) rfl ?_
  simp only [wXf]
  walk_at "mx"
  refine ⟨_, _, _, v, rfl, by decide, by simp [fldOf], by decide, ?_⟩
  rw [List.append_assoc]
  exact done _
theorem told_TooManyStones {v : M} (ht : ∀ (Qd Ed : KM), (∀ r, Ed (.exc "TooManyStones" ["limit"] [v]) (mh ++ .lst [] :: r)) → tl (mh ++ [.lst []]) Qd Ed) (q : ∀ r, Q (.tup [.str "many", v]) (mh ++ r)) : r__law_told tl mh Q := by
  intro lam
  unfold w__law_told
  walk_at "mx"
  refine ⟨by decide, _, _, rfl, ?_⟩
  unfold w__law_told_1 wTryT w__law_told_1a_0 wDeed
  walk_at "mx"
  refine ⟨⟨_, _, rfl, items_lst (at_app0 _ _)⟩, ht _ _ fun r => ?_⟩
  refine ⟨_, _, _, rfl, by decide, ?_⟩
  rw [if_pos (show xcat _ = true from rfl)]
  unfold w__law_told_1b_0 w__law_told_2 w__law_told_2a_0
  simp only [sufD]
  walk_at "mx"
  simp only [mIs, Mn.isNon]
  walk_at "mx"
  simp only [Bool.false_eq_true, if_false]
  have done : ∀ r', Q (.tup [.str "many", v]) ((mh ++ O.lst [] :: r) ++ r') := fun r' => by rw [List.append_assoc]; exact q _
  generalize mh ++ O.lst [] :: r = h0 at done
  unfold w__law_told_3
  walk_at "mx"
  refine isi_go (b := false) (by decide +kernel) (isi_go (b := false) (by decide +kernel) ⟨by decide, ?_⟩)
  unfold w__law_told_4
  walk_at "mx"
  refine isi_go (b := false) (by decide +kernel) (isi_go (b := false) (by decide +kernel) ⟨by decide, _, _, at_pre (at_app0 _ _), at_app0 _ _, by decide, ?_⟩)
  simp only [List.append_assoc, List.length_append, List.cons_append, List.nil_append, List.length_cons, List.length_nil]
  unfold w__law_told_5
  walk_at "mx"
  refine isi_go (b := false) (by decide +kernel) (isi_go (b := false) (by decide +kernel) ⟨by decide, _, _, at_pre (at_app _ _ _), at_app0 _ _, by decide, ?_⟩)
  simp only [List.append_assoc, List.length_append, List.cons_append, List.nil_append, List.length_cons, List.length_nil]
  unfold w__law_told_6
  walk_at "mx"
  refine isi_go (b := true) (by decide +kernel) (isi_go (b := false) (by decide +kernel) ⟨by decide, _, _, at_pre (at_app _ _ _), at_app0 _ _, by decide, ?_⟩)
  simp only [List.append_assoc, List.length_append, List.cons_append, List.nil_append, List.length_cons, List.length_nil]
  unfold w__law_told_7
  walk_at "mx"
  refine isi_go (b := false) (by decide +kernel) (isi_go (b := false) (by decide +kernel) ⟨by decide, ?_⟩)
  simp only [List.append_assoc, List.length_append, List.cons_append, List.nil_append, List.length_cons, List.length_nil]
  unfold w__law_told_8
  walk_at "mx"
  refine isi_go (b := true) (by decide +kernel) (isi_go (b := true) (by decide +kernel) ⟨by decide, _, _, at_pre (at_app _ _ _), at_app0 _ _, by decide, ?_⟩)
  simp only [List.append_assoc, List.length_append, List.cons_append, List.nil_append, List.length_cons, List.length_nil]
  unfold w__law_told_9
  walk_at "mx"
  have l6 : ∀ l : MH, itemsM (h0 ++ [O.lst [M.bl false, M.bl false], O.lst [M.bl false, M.bl false], O.lst [M.bl false, M.bl false, M.bl false, M.bl false], O.lst [M.bl false, M.bl false], O.lst [M.bl false, M.bl false, M.bl false, M.bl false, M.bl false, M.bl false], O.lst [M.bl true, M.bl false], O.lst [M.bl false, M.bl false, M.bl false, M.bl false, M.bl false, M.bl false, M.bl true, M.bl false]] ++ l) (.ref (List.length h0 + 6)) = some [M.bl false, M.bl false, M.bl false, M.bl false, M.bl false, M.bl false, M.bl true, M.bl false] := fun l => items_lst (at_pre (at_app _ _ _))
  have l7 := l6 [O.lst [M.bl false, M.bl false], O.lst [M.bl true, M.bl true], O.lst [M.bl false, M.bl false, M.bl true, M.bl true]]
  simp only [List.append_assoc, List.cons_append, List.nil_append] at l7
  refine ⟨⟨_, _, rfl, l7⟩, _, _, _, rfl, rfl, l7, rfl, rfl, ?_⟩
  refine ⟨true, rfl, ?_⟩
  rw [if_pos rfl]
  refine ⟨⟨_, _, rfl, l7⟩, _, _, _, 6, _, rfl, rfl, l7, rfl, rfl, rfl, rfl, fun m z hm hz => ?_, ?_⟩
  · match m, hm with
    | 0, _ => cases hz; rfl
    | 1, _ => cases hz; rfl
    | 2, _ => cases hz; rfl
    | 3, _ => cases hz; rfl
    | 4, _ => cases hz; rfl
    | 5, _ => cases hz; rfl
  clear l6 l7
  unfold w__law_told_10
  walk_at "mx"
  refine ⟨false, rfl, ?_⟩
  rw [if_neg (by decide)]
  refine ⟨by decide, ?_⟩
  refine ne_ref ?_
  refine ⟨.list [.bool false, .bool false, .bool true, .bool true], .list [.bool false, .bool false, .bool true, .bool true], pd_lst (at_pre (at_app _ _ _)) rfl, pd_lst (at_app0 _ _) rfl, by decide +kernel, by decide +kernel, ?_⟩
  refine ⟨false, congrArg M.bl (by decide +kernel), ?_⟩
  rw [if_neg (by decide), List.append_assoc]
  generalize [O.lst [M.bl false, M.bl false], O.lst [M.bl false, M.bl false], O.lst [M.bl false, M.bl false, M.bl false, M.bl false], O.lst [M.bl false, M.bl false], O.lst [M.bl false, M.bl false, M.bl false, M.bl false, M.bl false, M.bl false], O.lst [M.bl true, M.bl false], O.lst [M.bl false, M.bl false, M.bl false, M.bl false, M.bl false, M.bl false, M.bl true, M.bl false], O.lst [M.bl false, M.bl false], O.lst [M.bl true, M.bl true], O.lst [M.bl false, M.bl false, M.bl true, M.bl true]] ++ _ = r'
  unfold w__law_told_11
  walk_at "mx"
  refine ⟨false, rfl, ?_⟩
  rw [if_neg (by decide)]
  refine ⟨false, rfl, ?_⟩
  rw [if_neg (by decide)]
  unfold w__law_told_12
  walk_at "mx"
  refine ⟨true, rfl, ?_⟩
  rw [if_pos rfl]
  unfold w__law_told_12a_0
  walk_at "mx"
  simp only [wXf]
  walk_at "mx"
  refine ⟨_, _, _, v, rfl, by decide, by simp [fldOf], by decide, ?_⟩
  exact done _
theorem told_OutOfBounds {v : M} (ht : ∀ (Qd Ed : KM), (∀ r, Ed (.exc "OutOfBounds" ["value"] [v]) (mh ++ .lst [] :: r)) → tl (mh ++ [.lst []]) Qd Ed) (q : ∀ r, Q (.tup [.str "bounds", v]) (mh ++ r)) : r__law_told tl mh Q := by
  intro lam
  unfold w__law_told
  walk_at "mx"
  refine ⟨by decide, _, _, rfl, ?_⟩
  unfold w__law_told_1 wTryT w__law_told_1a_0 wDeed
  walk_at "mx"
  refine ⟨⟨_, _, rfl, items_lst (at_app0 _ _)⟩, ht _ _ fun r => ?_⟩
  refine ⟨_, _, _, rfl, by decide, ?_⟩
  rw [if_pos (show xcat _ = true from rfl)]
  unfold w__law_told_1b_0 w__law_told_2 w__law_told_2a_0
  simp only [sufD]
  walk_at "mx"
  simp only [mIs, Mn.isNon]
  walk_at "mx"
  simp only [Bool.false_eq_true, if_false]
  have done : ∀ r', Q (.tup [.str "bounds", v]) ((mh ++ O.lst [] :: r) ++ r') := fun r' => by rw [List.append_assoc]; exact q _
  generalize mh ++ O.lst [] :: r = h0 at done
  unfold w__law_told_3
  walk_at "mx"
  refine isi_go (b := false) (by decide +kernel) (isi_go (b := false) (by decide +kernel) ⟨by decide, ?_⟩)
  unfold w__law_told_4
  walk_at "mx"
  refine isi_go (b := false) (by decide +kernel) (isi_go (b := false) (by decide +kernel) ⟨by decide, _, _, at_pre (at_app0 _ _), at_app0 _ _, by decide, ?_⟩)
  simp only [List.append_assoc, List.length_append, List.cons_append, List.nil_append, List.length_cons, List.length_nil]
  unfold w__law_told_5
  walk_at "mx"
  refine isi_go (b := false) (by decide +kernel) (isi_go (b := false) (by decide +kernel) ⟨by decide, _, _, at_pre (at_app _ _ _), at_app0 _ _, by decide, ?_⟩)
  simp only [List.append_assoc, List.length_append, List.cons_append, List.nil_append, List.length_cons, List.length_nil]
  unfold w__law_told_6
  walk_at "mx"
  refine isi_go (b := false) (by decide +kernel) (isi_go (b := true) (by decide +kernel) ⟨by decide, _, _, at_pre (at_app _ _ _), at_app0 _ _, by decide, ?_⟩)
  simp only [List.append_assoc, List.length_append, List.cons_append, List.nil_append, List.length_cons, List.length_nil]
  unfold w__law_told_7
  walk_at "mx"
  refine isi_go (b := false) (by decide +kernel) (isi_go (b := false) (by decide +kernel) ⟨by decide, ?_⟩)
  simp only [List.append_assoc, List.length_append, List.cons_append, List.nil_append, List.length_cons, List.length_nil]
  unfold w__law_told_8
  walk_at "mx"
  refine isi_go (b := true) (by decide +kernel) (isi_go (b := true) (by decide +kernel) ⟨by decide, _, _, at_pre (at_app _ _ _), at_app0 _ _, by decide, ?_⟩)
  simp only [List.append_assoc, List.length_append, List.cons_append, List.nil_append, List.length_cons, List.length_nil]
  unfold w__law_told_9
  walk_at "mx"
  have l6 : ∀ l : MH, itemsM (h0 ++ [O.lst [M.bl false, M.bl false], O.lst [M.bl false, M.bl false], O.lst [M.bl false, M.bl false, M.bl false, M.bl false], O.lst [M.bl false, M.bl false], O.lst [M.bl false, M.bl false, M.bl false, M.bl false, M.bl false, M.bl false], O.lst [M.bl false, M.bl true], O.lst [M.bl false, M.bl false, M.bl false, M.bl false, M.bl false, M.bl false, M.bl false, M.bl true]] ++ l) (.ref (List.length h0 + 6)) = some [M.bl false, M.bl false, M.bl false, M.bl false, M.bl false, M.bl false, M.bl false, M.bl true] := fun l => items_lst (at_pre (at_app _ _ _))
  have l7 := l6 [O.lst [M.bl false, M.bl false], O.lst [M.bl true, M.bl true], O.lst [M.bl false, M.bl false, M.bl true, M.bl true]]
  simp only [List.append_assoc, List.cons_append, List.nil_append] at l7
  refine ⟨⟨_, _, rfl, l7⟩, _, _, _, rfl, rfl, l7, rfl, rfl, ?_⟩
  refine ⟨true, rfl, ?_⟩
  rw [if_pos rfl]
  refine ⟨⟨_, _, rfl, l7⟩, _, _, _, 7, _, rfl, rfl, l7, rfl, rfl, rfl, rfl, fun m z hm hz => ?_, ?_⟩
  · match m, hm with
    | 0, _ => cases hz; rfl
    | 1, _ => cases hz; rfl
    | 2, _ => cases hz; rfl
    | 3, _ => cases hz; rfl
    | 4, _ => cases hz; rfl
    | 5, _ => cases hz; rfl
    | 6, _ => cases hz; rfl
  clear l6 l7
  unfold w__law_told_10
  walk_at "mx"
  refine ⟨false, rfl, ?_⟩
  rw [if_neg (by decide)]
  refine ⟨by decide, ?_⟩
  refine ne_ref ?_
  refine ⟨.list [.bool false, .bool false, .bool true, .bool true], .list [.bool false, .bool false, .bool true, .bool true], pd_lst (at_pre (at_app _ _ _)) rfl, pd_lst (at_app0 _ _) rfl, by decide +kernel, by decide +kernel, ?_⟩
  refine ⟨false, congrArg M.bl (by decide +kernel), ?_⟩
  rw [if_neg (by decide), List.append_assoc]
  generalize [O.lst [M.bl false, M.bl false], O.lst [M.bl false, M.bl false], O.lst [M.bl false, M.bl false, M.bl false, M.bl false], O.lst [M.bl false, M.bl false], O.lst [M.bl false, M.bl false, M.bl false, M.bl false, M.bl false, M.bl false], O.lst [M.bl false, M.bl true], O.lst [M.bl false, M.bl false, M.bl false, M.bl false, M.bl false, M.bl false, M.bl false, M.bl true], O.lst [M.bl false, M.bl false], O.lst [M.bl true, M.bl true], O.lst [M.bl false, M.bl false, M.bl true, M.bl true]] ++ _ = r'
  unfold w__law_told_11
  walk_at "mx"
  refine ⟨false, rfl, ?_⟩
  rw [if_neg (by decide)]
  refine ⟨false, rfl, ?_⟩
  rw [if_neg (by decide)]
  unfold w__law_told_12
  walk_at "mx"
  refine ⟨false, rfl, ?_⟩
  rw [if_neg (by decide)]
  unfold w__law_told_13
  walk_at "mx"
  refine ⟨by decide, ?_⟩
  unfold w__law_told_14
  walk_at "mx"
  refine ix_go (items_lst (at_app0 _ _)) rfl ?_
  simp only [wXf]
  walk_at "mx"
  refine ⟨_, _, _, v, rfl, by decide, by simp [fldOf], by decide, ?_⟩
  rw [List.append_assoc]
  exact done _
end
end Lw
end
section
set_option maxHeartbeats 2000000
namespace Lw
open PySem PySem.Spec PyProof.Rows L2 Mn
local macro_rules | `(tactic| walk_at "mx") => `(tactic| simp only [wSeq, wAsgSub, gSubM, wOp, wUn, wVar, wCon, wAsg, gN, wIf, wRet, wDrop, wTst, wAndT, wOrT, wNotT, wAndV, wOrV, wIfE, wFn, wCons, wNil, wCall, wCallK, wBm, wLst, wTup, wDct0, wNext, wFor, wRng1, wSeqI, rngQ1, wPar, wRaise, wChain, mAdd, mMul, mSub, mNeg, mFdiv, mMod, mLt, mLe, mGt, mGe, mI, startM, endD, pick, List.filterMap_cons, List.filterMap_nil, List.replicate, List.map_cons, List.map_nil, List.length_cons, List.length_nil, List.cons_append, List.nil_append, List.append_nil, List.getElem?_cons_zero, List.getElem?_cons_succ, List.set_cons_zero, List.set_cons_succ, Option.some.injEq, exists_eq_left', M.bl.injEq, M.int.injEq, M.ref.injEq, decide_eq_true_eq, Nat.reduceAdd, Nat.reduceSub, Nat.zero_add, true_and, and_true])
theorem tyM_app {h r : MH} {m : M} {t : String} (e : tyM h m = some t) : tyM (h ++ r) m = some t := by
  cases m with
  | ref n =>
    unfold tyM at e ⊢
    simp only at e ⊢
    cases q : h[n]? with
    | none => rw [q] at e; cases e
    | some o => rw [at_pre q]; rw [q] at e; exact e
  | _ => exact e
def Odv (h : MH) (m : M) : Prop := ∃ t d, tyM h m = some t ∧ t ≠ "int" ∧ t ∈ tyList ∧ pd h 58 m = some d ∧ Sh d 300
def Gd (h : MH) (m : M) : Prop := (∃ i : Int, m = .int i ∧ i.natAbs < 2 ^ 221) ∨ Odv h m
theorem Odv.pre {h h1 : MH} {m : M} (o : Odv h m) (p : h <+: h1) : Odv h1 m := by
  obtain ⟨r, rfl⟩ := p
  obtain ⟨t, d, a, b, c, e, f⟩ := o
  exact ⟨t, d, tyM_app a, b, c, pd_mono _ _ _ e, f⟩
theorem Gd.pre {h h1 : MH} {m : M} (o : Gd h m) (p : h <+: h1) : Gd h1 m := o.imp id fun o => o.pre p
theorem Gd.pd {h : MH} {m : M} (o : Gd h m) : ∃ d, pd h 58 m = some d ∧ Sh d 300 := by
  rcases o with ⟨i, rfl, h⟩ | ⟨t, d, _, _, _, e, f⟩
  · exact ⟨_, rfl, (sh_int h (by decide)).le (by decide)⟩
  · exact ⟨d, e, f⟩
def fit (m : M) (a b : Option Int) : Bool := match m with
  | .int i => loB i a && hiB i b
  | _ => false
theorem Odv.fit {h : MH} {m : M} (o : Odv h m) (a b : Option Int) : fit m a b = false := by
  obtain ⟨t, d, e, n, _⟩ := o
  cases m with
  | int i => exact absurd (Option.some.inj e).symm n
  | _ => rfl
theorem isint_gd {mh : MH} {m lo hi : M} {a b : Option Int} {Q E : KM} (g : Gd mh m) (ha : dflI lo = some a) (hb : dflI hi = some b) (q : Q (.bl (fit m a b)) mh) : r_is_integer [m, lo, hi] mh Q E := by
  rcases g with ⟨i, rfl, _⟩ | o
  · exact isint_int ha hb q
  · rw [o.fit] at q
    obtain ⟨t, d, e, n, c, _⟩ := o
    exact isint_odd e n c q
theorem within_gd {mh : MH} {m lo hi : M} {a b : Option Int} {Q E : KM} (g : Gd mh m) (ha : dflI lo = some a) (hb : dflI hi = some b) (q : Q (.bl (fit m a b)) mh) : r__law_within [m, lo, hi] mh Q E := by
  refine ⟨rfl, ?_⟩
  rcases g with ⟨i, rfl, _⟩ | o
  · unfold w__law_within w__law_within_1
    walk_at "mx"
    refine isi_ty rfl (by decide) ⟨_, rfl, ?_⟩
    rw [if_neg (by decide)]
    refine isi_ty rfl (by decide) ⟨_, rfl, ?_⟩
    rw [if_neg (by decide)]
    have q : Q (.bl (loB i a && hiB i b)) mh := q
    cases lo with
    | non =>
      cases ha
      refine ⟨true, rfl, ?_⟩
      rw [if_pos rfl, if_pos trivial]
      cases hi with
      | non => cases hb; exact ⟨true, rfl, by rw [if_pos rfl]; exact q⟩
      | int y => cases hb; exact ⟨false, rfl, q⟩
      | _ => cases hb
    | int y =>
      cases ha
      refine ⟨false, rfl, ?_⟩
      rw [if_neg (by decide)]
      dsimp only
      by_cases hy : y ≤ i
      · rw [if_pos hy]
        cases hi with
        | non => cases hb; exact ⟨true, rfl, by rw [if_pos rfl]; simpa [loB, hiB, hy] using q⟩
        | int z => cases hb; exact ⟨false, rfl, by rw [if_neg (by decide)]; simpa [loB, hiB, hy] using q⟩
        | _ => cases hb
      · rw [if_neg hy]
        simpa [loB, hy] using q
    | _ => cases ha
  · rw [o.fit] at q
    obtain ⟨t, d, ht, hn, hm, _⟩ := o
    unfold w__law_within w__law_within_0a_0
    walk_at "mx"
    refine isi_ty ht (by decide) ⟨_, rfl, ?_⟩
    by_cases h : (!isa t "int") = true
    · rw [if_pos h]; exact q
    · rw [if_neg h]
      refine isi_ty ht (by decide) ⟨_, rfl, ?_⟩
      have : isa t "bool" = true := by
        simp only [tyList, List.mem_cons, List.not_mem_nil, or_false] at hm
        rcases hm with rfl | rfl | rfl | rfl | rfl | rfl | rfl <;> first | rfl | exact absurd rfl hn | exact absurd rfl h
      rw [if_pos this]
      exact q
abbrev oP : Option Int := some (-1000000000000000000000000000000)
abbrev oP' : Option Int := some 1000000000000000000000000000000
abbrev oD : Option Int := some (-2000000000000000000000000000000)
abbrev oD' : Option Int := some 2000000000000000000000000000000
theorem isplace_gd {mh : MH} {m : M} {Q E : KM} (g : Gd mh m) (q : Q (.bl (fit m oP oP')) mh) : r_is_place [m] mh Q E := by
  refine ⟨rfl, ?_⟩
  unfold w_is_place
  walk_at "mx"
  exact isint_gd g rfl rfl q
theorem cp_gd {mh : MH} {m : M} {Q E : KM} (g : Gd mh m) (q : fit m oP oP' = true → Q .non mh) (e : fit m oP oP' = false → E (.exc "InvalidPlace" ["value"] [m]) mh) : r_check_place [m] mh Q E := by
  refine ⟨rfl, ?_⟩
  unfold w_check_place w_check_place_0a_0
  walk_at "mx"
  refine isplace_gd g ⟨_, rfl, ?_⟩
  cases z : fit m oP oP' with
  | true => rw [if_neg (by decide)]; exact q z
  | false => rw [if_pos (by decide)]; exact ⟨_, rfl, e z⟩
theorem cd_gd {mh : MH} {m : M} {Q E : KM} (g : Gd mh m) (q : fit m oD oD' = true → Q .non mh) (e : fit m oD oD' = false → E (.exc "InvalidDistance" ["value"] [m]) mh) : r_check_distance [m] mh Q E := by
  refine ⟨rfl, ?_⟩
  unfold w_check_distance w_check_distance_0a_0
  walk_at "mx"
  refine isint_gd g rfl rfl ⟨_, rfl, ?_⟩
  cases z : fit m oD oD' with
  | true => rw [if_neg (by decide)]; exact q z
  | false => rw [if_pos (by decide)]; exact ⟨_, rfl, e z⟩
def dP (w : Str) (b : Bool) (d : PyData) : PyData := if b = true then .list [.none] else .tuple [.str w, d]
theorem tup_pd {h : MH} {w : Str} {m : M} {d : PyData} (e : pd h 58 m = some d) : pd h 59 (.tup [.str w, m]) = some (.tuple [.str w, d]) := by
  show (pdL (pd h 58) [.str w, m]).map PyData.tuple = _
  unfold pdL pdL
  rw [e]; rfl
theorem told_cp {mh : MH} {m : M} {d : PyData} {Q : KM} {tl : MH → KM → KM → Prop} (g : Gd mh m) (hd : pd mh 58 m = some d) (ht : ∀ Qd Ed, r_check_place [m] (mh ++ [.lst []]) Qd Ed → tl (mh ++ [.lst []]) Qd Ed)
    (q : ∀ v r, (∀ mh' : MH, mh'.length = mh.length → pd mh' 58 m = some d → pd (mh' ++ r) 59 v = some (dP "place" (fit m oP oP') d)) → Q v (mh ++ r)) : r__law_told tl mh Q := by
  have g1 := g.pre (List.prefix_append mh [.lst []])
  cases z : fit m oP oP' with
  | true =>
    refine told_val (v := .non) (fun Qd Ed he => ht _ _ (cp_gd g1 (fun _ => he []) fun z' => by rw [z] at z'; cases z')) fun r => ?_
    refine q _ _ fun mh' el _ => ?_
    rw [z, ← el]
    exact pd_lst (at_app0 _ _) rfl
  | false =>
    refine told_InvalidPlace (v := m) (fun Qd Ed he => ht _ _ (cp_gd g1 (fun z' => by rw [z] at z'; cases z') fun _ => he [])) fun r => ?_
    refine q _ _ fun mh' el hd' => ?_
    rw [z]
    exact tup_pd (pd_mono _ _ _ hd')
theorem told_cd {mh : MH} {m : M} {d : PyData} {Q : KM} {tl : MH → KM → KM → Prop} (g : Gd mh m) (hd : pd mh 58 m = some d) (ht : ∀ Qd Ed, r_check_distance [m] (mh ++ [.lst []]) Qd Ed → tl (mh ++ [.lst []]) Qd Ed)
    (q : ∀ v r, (∀ mh' : MH, mh'.length = mh.length → pd mh' 58 m = some d → pd (mh' ++ r) 59 v = some (dP "distance" (fit m oD oD') d)) → Q v (mh ++ r)) : r__law_told tl mh Q := by
  have g1 := g.pre (List.prefix_append mh [.lst []])
  cases z : fit m oD oD' with
  | true =>
    refine told_val (v := .non) (fun Qd Ed he => ht _ _ (cd_gd g1 (fun _ => he []) fun z' => by rw [z] at z'; cases z')) fun r => ?_
    refine q _ _ fun mh' el _ => ?_
    rw [z, ← el]
    exact pd_lst (at_app0 _ _) rfl
  | false =>
    refine told_InvalidDistance (v := m) (fun Qd Ed he => ht _ _ (cd_gd g1 (fun z' => by rw [z] at z'; cases z') fun _ => he [])) fun r => ?_
    refine q _ _ fun mh' el hd' => ?_
    rw [z]
    exact tup_pd (pd_mono _ _ _ hd')
end Lw
end
section
set_option maxHeartbeats 2000000
namespace Lw
open PySem PySem.Spec PyProof.Rows L2 Mn
local macro_rules | `(tactic| walk_at "mx") => `(tactic| simp only [wSeq, wAsgSub, gSubM, wOp, wUn, wVar, wCon, wAsg, gN, wIf, wRet, wDrop, wTst, wAndT, wOrT, wNotT, wAndV, wOrV, wIfE, wFn, wCons, wNil, wCall, wCallK, wBm, wLst, wTup, wDct0, wNext, wFor, wRng1, wSeqI, rngQ1, wPar, wRaise, wChain, mAdd, mMul, mSub, mNeg, mFdiv, mMod, mLt, mLe, mGt, mGe, mI, startM, endD, pick, List.filterMap_cons, List.filterMap_nil, List.replicate, List.map_cons, List.map_nil, List.length_cons, List.length_nil, List.cons_append, List.nil_append, List.append_nil, List.getElem?_cons_zero, List.getElem?_cons_succ, List.set_cons_zero, List.set_cons_succ, Option.some.injEq, exists_eq_left', M.bl.injEq, M.int.injEq, M.ref.injEq, decide_eq_true_eq, Nat.reduceAdd, Nat.reduceSub, Nat.zero_add, true_and, and_true])
theorem same_bl {mh : MH} {n k : Nat} {b : Bool} {Q E : KM} (hn : mh[n]? = some (.lst (List.replicate k (.bl b)))) (hk : k ≤ 2) (q : ∀ r, Q (.bl true) (mh ++ r)) : r__law_same [.ref n, .bl b] mh Q E := by
  refine same_ok (d := .bool b) hn ?_ rfl ?_ ?_ q
  · rw [List.length_replicate]; exact pdL_rep rfl _
  · rw [List.length_replicate]; exact (sh_rep 2 (sh_bl b) hk).rep (by decide)
  · rw [List.length_replicate]; omega
theorem dP_sh {w : Str} {b : Bool} {d : PyData} (hw : Sh (.str w) 20) (hd : Sh d 300) : Sh (dP w b d) 700 := by
  unfold dP
  cases b with
  | true => exact (sh_list 1 (B := 4) (fun x hx => by rw [List.mem_singleton.mp hx]; exact sh_non) (Nat.le_refl _)).le (by decide)
  | false =>
    refine (sh_tup 2 (B := 300) (ds := [.str w, d]) (fun x hx => ?_) (Nat.le_refl _)).le (by decide)
    rcases List.mem_cons.mp hx with rfl | hx
    · exact hw.le (by decide)
    · rw [List.mem_singleton.mp hx]; exact hd
theorem same_two {mh : MH} {n : Nat} {v1 v2 due : M} {D : PyData} {Q E : KM} (hn : mh[n]? = some (.lst [v1, v2])) (e1 : pd mh 59 v1 = some D) (e2 : pd mh 59 v2 = some D) (ed : pd mh 59 due = some D) (hs : Sh D 700) (q : ∀ r, Q (.bl true) (mh ++ r)) : r__law_same [.ref n, due] mh Q E := by
  refine same_ok (d := D) hn ?_ ed ((sh_rep 2 hs (Nat.le_refl 2)).rep (by decide)) (show 2 ≤ 1000 by decide) q
  show pdL (pd mh 59) [v1, v2] = some [D, D]
  unfold pdL pdL pdL
  rw [e1, e2]
theorem p30 : PowOk 10 30 := ⟨by decide, by decide +kernel⟩
theorem b30 : BitsOk 2 (10 ^ Int.toNat 30) := mulx_ok (a := 3) (b := 100) (by decide) (by decide +kernel) (by decide)
theorem pd_pre {h h1 : MH} {n : Nat} {m : M} {d : PyData} (e : pd h n m = some d) (p : h <+: h1) : pd h1 n m = some d := by
  obtain ⟨r, rfl⟩ := p
  exact pd_mono _ _ _ e
theorem get_pre {h h1 : MH} {n : Nat} {o : O} (e : h[n]? = some o) (p : h <+: h1) : h1[n]? = some o := by
  obtain ⟨r, rfl⟩ := p
  exact at_pre e
theorem tab_pre {h h1 : MH} {o : O} (e : ∃ i : Nat, h[i]? = some o) (p : h <+: h1) : ∃ i : Nat, h1[i]? = some o := by
  obtain ⟨i, e⟩ := e
  exact ⟨i, get_pre e p⟩
theorem right_ok {T : Str → Addr} {mh : MH} {m lo hi : M} {a b : Option Int} {Q E : KM} (g : Gd mh m) (ht : ∃ i : Nat, mh[i]? = some (O.tab (T "_law_right") (qLam "_law_right"))) (ha : dflI lo = some a) (hb : dflI hi = some b) (q : ∀ h1, mh <+: h1 → Q (.bl true) h1) : r__law_right T [m, lo, hi] mh Q E := by
  refine ⟨rfl, ?_⟩
  unfold w__law_right
  walk_at "mx"
  refine isint_gd g rfl rfl ⟨by decide, within_gd (g.pre (List.prefix_append _ _)) rfl rfl (same_bl (k := 1) (at_app0 _ _) (by decide) fun r1 => ⟨true, rfl, ?_⟩)⟩
  rw [if_neg (by decide), List.append_assoc]
  have p1 : mh <+: mh ++ ([O.lst [M.bl (fit m none none)]] ++ r1) := List.prefix_append _ _
  generalize mh ++ ([O.lst [M.bl (fit m none none)]] ++ r1) = h1 at p1
  have g1 := g.pre p1
  unfold w__law_right_1
  walk_at "mx"
  refine isint_gd g1 ha rfl ⟨by decide, within_gd (g1.pre (List.prefix_append _ _)) ha rfl (same_bl (k := 1) (at_app0 _ _) (by decide) fun r2 => ⟨true, rfl, ?_⟩)⟩
  rw [if_neg (by decide), List.append_assoc]
  have p2 : mh <+: h1 ++ ([O.lst [M.bl (fit m a none)]] ++ r2) := p1.trans (List.prefix_append _ _)
  generalize h1 ++ ([O.lst [M.bl (fit m a none)]] ++ r2) = h2 at p2
  have g2 := g.pre p2
  clear p1 g1
  unfold w__law_right_2
  walk_at "mx"
  refine isint_gd g2 rfl hb ⟨by decide, within_gd (g2.pre (List.prefix_append _ _)) rfl hb (same_bl (k := 1) (at_app0 _ _) (by decide) fun r3 => ⟨true, rfl, ?_⟩)⟩
  rw [if_neg (by decide), List.append_assoc]
  have p3 : mh <+: h2 ++ ([O.lst [M.bl (fit m none b)]] ++ r3) := p2.trans (List.prefix_append _ _)
  generalize h2 ++ ([O.lst [M.bl (fit m none b)]] ++ r3) = h3 at p3
  have g3 := g.pre p3
  clear p2 g2
  unfold w__law_right_3
  walk_at "mx"
  refine isint_gd g3 ha hb ⟨by decide, ?_⟩
  unfold w__law_right_4
  walk_at "mx"
  refine within_gd (g3.pre (List.prefix_append _ _)) ha hb (same_bl (k := 1) (at_app0 _ _) (by decide) fun r4 => ⟨true, rfl, ?_⟩)
  rw [if_neg (by decide), List.append_assoc]
  have p4 : mh <+: h3 ++ ([O.lst [M.bl (fit m a b)]] ++ r4) := p3.trans (List.prefix_append _ _)
  generalize hh4 : h3 ++ ([O.lst [M.bl (fit m a b)]] ++ r4) = h4 at p4
  clear hh4
  have g4 := g.pre p4
  clear p3 g3
  unfold w__law_right_5
  walk_at "mx"
  refine ⟨p30, p30, ?_⟩
  show r__law_within [m, M.int (-1000000000000000000000000000000), M.int 1000000000000000000000000000000] h4 _ _
  refine within_gd g4 (a := oP) (b := oP') rfl rfl ?_
  unfold w__law_right_6
  walk_at "mx"
  refine isplace_gd g4 (isplace_gd g4 ⟨by decide, same_bl (k := 2) (at_app0 _ _) (by decide) fun r5 => ⟨true, rfl, ?_⟩⟩)
  rw [if_neg (by decide), List.append_assoc]
  have p5 : mh <+: h4 ++ ([O.lst [M.bl (fit m oP oP'), M.bl (fit m oP oP')]] ++ r5) := p4.trans (List.prefix_append _ _)
  generalize h4 ++ ([O.lst [M.bl (fit m oP oP'), M.bl (fit m oP oP')]] ++ r5) = h5 at p5
  have g5 := g.pre p5
  obtain ⟨d, pd5, sd⟩ := g5.pd
  have t5 := tab_pre ht p5
  unfold w__law_right_7
  walk_at "mx"
  simp only [wLam]
  refine ⟨t5, told_cp g5 pd5 (fun Qd Ed z => by walk_at "mx"; exact z) fun v1 r6 e1 => ⟨by decide, ?_⟩⟩
  have pp1 := e1 h5 rfl pd5
  have p6 : h5 <+: h5 ++ r6 := List.prefix_append _ _
  clear e1
  generalize h5 ++ r6 = h6 at pp1 p6
  unfold w__law_right_8
  walk_at "mx"
  simp only [wLam]
  have p7 : h5 <+: h6 ++ [O.lst [v1]] := p6.trans (List.prefix_append _ _)
  have g7 := g5.pre p7
  refine ⟨⟨_, _, rfl, items_lst (at_app0 _ _)⟩, tab_pre t5 p7, told_cp g7 (pd_pre pd5 p7) (fun Qd Ed z => by walk_at "mx"; exact z) fun v2 r8 e2 => ?_⟩
  refine ⟨_, _, _, rfl, rfl, at_pre (at_app0 _ _), (show 1 < 16777216 by decide), ?_⟩
  have es : List.set (h6 ++ [O.lst [v1]] ++ r8) h6.length (O.lst ([v1] ++ [v2])) = h6 ++ [O.lst [v1, v2]] ++ r8 := by
    rw [List.append_assoc, List.set_append_right _ _ (Nat.le_refl _), Nat.sub_self, List.append_assoc]; rfl
  rw [es]
  have pp2 := e2 (h6 ++ [O.lst [v1, v2]]) (by simp) (pd_pre pd5 (p6.trans (List.prefix_append _ _)))
  have pp1' := pd_pre pp1 (show h6 <+: h6 ++ [O.lst [v1, v2]] ++ r8 from (List.prefix_append _ _).trans (List.prefix_append _ _))
  have at8 : (h6 ++ [O.lst [v1, v2]] ++ r8)[h6.length]? = some (.lst [v1, v2]) := at_pre (at_app0 _ _)
  have p8 : h5 <+: h6 ++ [O.lst [v1, v2]] ++ r8 := p6.trans ((List.prefix_append _ _).trans (List.prefix_append _ _))
  generalize h6 ++ [O.lst [v1, v2]] ++ r8 = h8 at pp2 pp1' at8 p8
  clear es e2 pp1 p7 g7
  unfold w__law_right_9
  walk_at "mx"
  have fin : ∀ h9, mh <+: h9 → w__law_right_10 T { nx := fun x h => Q M.non h, rt := Q, bk := fun _ _ => False, ct := fun _ _ => False, xc := fun e _ h => E e h } [some m, some lo, some hi, some (M.ref (List.length h6)), some (M.bl (fit m oP oP'))] h9 := by
    clear at8 pp2 pp1' p8
    intro h9 p9
    have g9 := g.pre p9
    unfold w__law_right_10
    walk_at "mx"
    refine ⟨p30, b30, p30, b30, ?_⟩
    show r__law_within [m, M.int (-2000000000000000000000000000000), M.int 2000000000000000000000000000000] h9 _ _
    refine within_gd g9 (a := oD) (b := oD') rfl rfl ?_
    obtain ⟨d, pd9, sd⟩ := g9.pd
    have t9 := tab_pre ht p9
    unfold w__law_right_11
    walk_at "mx"
    simp only [wLam]
    refine ⟨t9, told_cd g9 pd9 (fun Qd Ed z => by walk_at "mx"; exact z) fun v1 r6 e1 => ⟨by decide, ?_⟩⟩
    have pp1 := e1 h9 rfl pd9
    have p6 : h9 <+: h9 ++ r6 := List.prefix_append _ _
    clear e1
    generalize h9 ++ r6 = h6 at pp1 p6
    unfold w__law_right_12
    walk_at "mx"
    simp only [wLam]
    have p7 : h9 <+: h6 ++ [O.lst [v1]] := p6.trans (List.prefix_append _ _)
    have g7 := g9.pre p7
    refine ⟨⟨_, _, rfl, items_lst (at_app0 _ _)⟩, tab_pre t9 p7, told_cd g7 (pd_pre pd9 p7) (fun Qd Ed z => by walk_at "mx"; exact z) fun v2 r8 e2 => ?_⟩
    refine ⟨_, _, _, rfl, rfl, at_pre (at_app0 _ _), (show 1 < 16777216 by decide), ?_⟩
    have es : List.set (h6 ++ [O.lst [v1]] ++ r8) h6.length (O.lst ([v1] ++ [v2])) = h6 ++ [O.lst [v1, v2]] ++ r8 := by
      rw [List.append_assoc, List.set_append_right _ _ (Nat.le_refl _), Nat.sub_self, List.append_assoc]; rfl
    rw [es]
    have pp2 := e2 (h6 ++ [O.lst [v1, v2]]) (by simp) (pd_pre pd9 (p6.trans (List.prefix_append _ _)))
    have pp1' := pd_pre pp1 (show h6 <+: h6 ++ [O.lst [v1, v2]] ++ r8 from (List.prefix_append _ _).trans (List.prefix_append _ _))
    have at8 : (h6 ++ [O.lst [v1, v2]] ++ r8)[h6.length]? = some (.lst [v1, v2]) := at_pre (at_app0 _ _)
    have p8 : h9 <+: h6 ++ [O.lst [v1, v2]] ++ r8 := p6.trans ((List.prefix_append _ _).trans (List.prefix_append _ _))
    generalize h6 ++ [O.lst [v1, v2]] ++ r8 = h8 at pp2 pp1' at8 p8
    clear es e2 pp1 p7 g7
    unfold w__law_right_13
    walk_at "mx"
    cases z : fit m oD oD' with
    | true =>
      rw [if_pos rfl]
      rw [z] at pp2 pp1'
      exact ⟨by decide, same_two (at_pre at8) (pd_mono _ _ _ pp1') (pd_mono _ _ _ pp2) (pd_lst (at_app0 _ _) rfl) (dP_sh ⟨by simp only [PyData.showable], by simp only [PyData.shown]; decide +kernel⟩ sd) fun r => q _ ((p9.trans p8).trans ((List.prefix_append _ _).trans (List.prefix_append _ _)))⟩
    | false =>
      rw [if_neg (by decide)]
      rw [z] at pp2 pp1'
      exact ⟨by decide, same_two at8 pp1' pp2 (tup_pd (pd_pre pd9 p8)) (dP_sh ⟨by simp only [PyData.showable], by simp only [PyData.shown]; decide +kernel⟩ sd) fun r => q _ ((p9.trans p8).trans (List.prefix_append _ _))⟩
  cases z : fit m oP oP' with
  | true =>
    rw [if_pos rfl]
    rw [z] at pp2 pp1' fin
    refine ⟨by decide, same_two (at_pre at8) (pd_mono _ _ _ pp1') (pd_mono _ _ _ pp2) (pd_lst (at_app0 _ _) rfl) (dP_sh ⟨by simp only [PyData.showable], by simp only [PyData.shown]; decide +kernel⟩ sd) fun r => ⟨true, rfl, ?_⟩⟩
    rw [if_neg (by decide)]
    exact fin _ ((p5.trans p8).trans ((List.prefix_append _ _).trans (List.prefix_append _ _)))
  | false =>
    rw [if_neg (by decide)]
    rw [z] at pp2 pp1' fin
    refine ⟨by decide, same_two at8 pp1' pp2 (tup_pd (pd_pre pd5 p8)) (dP_sh ⟨by simp only [PyData.showable], by simp only [PyData.shown]; decide +kernel⟩ sd) fun r => ⟨true, rfl, ?_⟩⟩
    rw [if_neg (by decide)]
    exact fin _ ((p5.trans p8).trans (List.prefix_append _ _))
end Lw
end
section
set_option maxHeartbeats 2000000
namespace Lw
open PySem PySem.Spec PyProof.Rows L2 Mn
local macro_rules | `(tactic| walk_at "mx") => `(tactic| simp only [wSeq, wAsgSub, gSubM, wOp, wUn, wVar, wCon, wAsg, gN, wIf, wRet, wDrop, wTst, wAndT, wOrT, wNotT, wAndV, wOrV, wIfE, wFn, wCons, wNil, wCall, wCallK, wBm, wLst, wTup, wDct0, wNext, wFor, wRng1, wSeqI, rngQ1, wPar, wRaise, wChain, mAdd, mMul, mSub, mNeg, mFdiv, mMod, mLt, mLe, mGt, mGe, mI, startM, endD, pick, List.filterMap_cons, List.filterMap_nil, List.replicate, List.map_cons, List.map_nil, List.length_cons, List.length_nil, List.cons_append, List.nil_append, List.append_nil, List.getElem?_cons_zero, List.getElem?_cons_succ, List.set_cons_zero, List.set_cons_succ, Option.some.injEq, exists_eq_left', M.bl.injEq, M.int.injEq, M.ref.injEq, decide_eq_true_eq, Nat.reduceAdd, Nat.reduceSub, Nat.zero_add, true_and, and_true])
structure St (T : Str → Addr) (ns : List Int) (c : Nat) (h : MH) : Prop where
  scr : h[0]? = some (.rol (ns.map M.int))
  tab : h[1]? = some (.tab (T "_law_right") (qLam "_law_right"))
  spot : h[2]? = some (.lst [.int c])
def Kp (h h1 : MH) : Prop := ∀ (i : Nat) (o : O), i ≠ 2 → h[i]? = some o → h1[i]? = some o
theorem Kp.refl (h : MH) : Kp h h := fun _ _ _ e => e
theorem Kp.trans {a b c : MH} (x : Kp a b) (y : Kp b c) : Kp a c := fun i o n e => y i o n (x i o n e)
theorem Kp.app (h r : MH) : Kp h (h ++ r) := fun _ _ _ e => at_pre e
theorem Kp.set (h : MH) (o : O) : Kp h (h.set 2 o) := fun i o' n e => by rw [List.getElem?_set_ne (Ne.symm n)]; exact e
section
variable {T : Str → Addr} {ns : List Int} {c : Nat} {h h1 : MH}
theorem St.pre (s : St T ns c h) (p : h <+: h1) : St T ns c h1 := ⟨get_pre s.scr p, get_pre s.tab p, get_pre s.spot p⟩
theorem St.app (s : St T ns c h) (r : MH) : St T ns c (h ++ r) := s.pre (List.prefix_append _ _)
theorem St.next (s : St T ns c h) : St T ns (c + 1) (h.set 2 (.lst [.int ((c : Int) + 1)])) := by
  have hl := (List.getElem?_eq_some_iff.mp s.spot).1
  exact ⟨by rw [List.getElem?_set_ne (by decide)]; exact s.scr, by rw [List.getElem?_set_ne (by decide)]; exact s.tab, by rw [List.getElem?_set_self hl]; rfl⟩
theorem St.cell (s : St T ns c h) (hl : ns.length ≤ 63) (hc : c < 1000000) {Q E : KM} (q : ∀ (v : Int) (h1 : MH), 0 ≤ v → v < 306783379 → St T ns (c + 1) h1 → Kp h h1 → Q (.int v) h1) : r__law_cell [.ref 0, .ref 2] h Q E :=
  cell_ok s.scr s.spot hc hl fun v a b => q v _ a b s.next (Kp.set _ _)
end
theorem at_all {α : Type} (P : α → Prop) {xs : List α} {i : Int} (h0 : 0 ≤ i) (h1 : i < xs.length) (h : ∀ x ∈ xs, P x) : ∃ x, atI xs i = some x ∧ P x := by
  rw [atI_nn h0 h1, List.getElem?_eq_getElem (by omega)]
  exact ⟨_, rfl, h _ (List.getElem_mem _)⟩
def Bi (n : Nat) (m : M) : Prop := ∃ i : Int, m = .int i ∧ i.natAbs < 2 ^ n
theorem mul_lt {i j : Int} {a b : Nat} (ha : i.natAbs < 2 ^ a) (hb : j.natAbs < 2 ^ b) : (i * j).natAbs < 2 ^ (a + b) := by
  rw [Int.natAbs_mul, Nat.pow_add]
  exact Nat.mul_lt_mul'' ha hb
theorem lt_up {i : Int} {a b : Nat} (ha : i.natAbs < 2 ^ a) (h : a ≤ b) : i.natAbs < 2 ^ b := Nat.lt_of_lt_of_le ha (Nat.pow_le_pow_right (by decide) h)
theorem add_lt {i j : Int} {a : Nat} (ha : i.natAbs < 2 ^ a) (hb : j.natAbs < 2 ^ a) : (i + j).natAbs < 2 ^ (a + 1) := by
  have := Int.natAbs_add_le i j
  rw [Nat.pow_succ]
  omega
theorem p15 : PowOk 10 15 := ⟨by decide, by decide +kernel⟩
theorem St.whole {T : Str → Addr} {ns : List Int} {c : Nat} {h : MH} (s : St T ns c h) (hl : ns.length ≤ 63) (hc : c < 1000000) {Q E : KM} (q : ∀ (v : Int) (h1 : MH), v.natAbs < 2 ^ 218 → St T ns (c + 1) h1 → Kp h h1 → Q (.int v) h1) : r__law_whole [.ref 0, .ref 2] h Q E := by
  refine ⟨rfl, ?_⟩
  unfold w__law_whole
  walk_at "mx"
  refine s.cell hl hc fun n h1 n0 n1 s1 l1 => ?_
  unfold w__law_whole_1
  walk_at "mx"
  refine ⟨by decide, ⟨by decide, by decide⟩, by decide, ?_⟩
  obtain ⟨_, et, t, rfl, ht⟩ := at_all (Bi 1) (xs := [M.int 1, M.int (0 - 1)]) (Int.fmod_nonneg_of_pos (n.fdiv 8) (show (0 : Int) < 2 by decide)) (Int.fmod_lt_of_pos (n.fdiv 8) (show (0 : Int) < 2 by decide)) (by
    intro x hx
    simp only [List.mem_cons, List.not_mem_nil, or_false] at hx
    rcases hx with rfl | rfl <;> exact ⟨_, rfl, by decide⟩)
  refine ix_go (items_lst (at_app0 _ _)) et ?_
  have k1 : Kp h (h1 ++ [O.lst [M.int 1, M.int (0 - 1)]]) := l1.trans (Kp.app _ _)
  have s2 := s1.app [O.lst [M.int 1, M.int (0 - 1)]]
  generalize h1 ++ [O.lst [M.int 1, M.int (0 - 1)]] = h2 at k1 s2
  unfold w__law_whole_2
  walk_at "mx"
  have b1 : n.natAbs < 2 ^ 29 := by omega
  have b2 := mul_lt b1 b1
  have b3 : (n + 10 ^ Int.toNat 15).natAbs < 2 ^ 50 := by
    have : (10 : Int) ^ Int.toNat 15 = 1000000000000000 := by decide
    rw [this]; omega
  have b4 := mul_lt b2 b3
  have b5 := mul_lt b4 ht
  refine ⟨mulx_ok b1 b1 (by decide), p15, mulx_ok b2 b3 (by decide), mulx_ok b4 ht (by decide), ?_⟩
  generalize n * n * (n + 10 ^ Int.toNat 15) * t = g at b5
  unfold w__law_whole_3
  walk_at "mx"
  refine ⟨p30, p30, b30, by decide, ⟨by decide, by decide⟩, by decide, ?_⟩
  obtain ⟨_, ee, e, rfl, he⟩ := at_all (Bi 101) (xs := [M.int (10 ^ Int.toNat 30), M.int (2 * 10 ^ Int.toNat 30)]) (Int.fmod_nonneg_of_pos (n.fdiv 16) (show (0 : Int) < 2 by decide)) (Int.fmod_lt_of_pos (n.fdiv 16) (show (0 : Int) < 2 by decide)) (by
    intro x hx
    simp only [List.mem_cons, List.not_mem_nil, or_false] at hx
    rcases hx with rfl | rfl <;> exact ⟨_, rfl, by decide +kernel⟩)
  refine ix_go (items_lst (at_app0 _ _)) ee ?_
  have k2 : Kp h (h2 ++ [O.lst [M.int (10 ^ Int.toNat 30), M.int (2 * 10 ^ Int.toNat 30)]]) := k1.trans (Kp.app _ _)
  have s3 := s2.app [O.lst [M.int (10 ^ Int.toNat 30), M.int (2 * 10 ^ Int.toNat 30)]]
  generalize h2 ++ [O.lst [M.int (10 ^ Int.toNat 30), M.int (2 * 10 ^ Int.toNat 30)]] = h3 at k2 s3
  have b6 := mul_lt he ht
  refine ⟨mulx_ok he ht (by decide), ⟨by decide, by decide⟩, by decide, ?_⟩
  have f0 := Int.fmod_nonneg_of_pos (n.fdiv 32) (show (0 : Int) < 5 by decide)
  have f1 := Int.fmod_lt_of_pos (n.fdiv 32) (show (0 : Int) < 5 by decide)
  have g0 := Int.fmod_nonneg_of_pos (n.fdiv 8) (show (0 : Int) < 9 by decide)
  have g1 := Int.fmod_lt_of_pos (n.fdiv 8) (show (0 : Int) < 9 by decide)
  have b7 : (e * t + (n.fdiv 32).fmod 5 - 2).natAbs < 2 ^ 104 := by
    generalize e * t = et at b6
    have b6 : et.natAbs < 2 ^ 102 := b6
    omega
  generalize e * t + (n.fdiv 32).fmod 5 - 2 = w at b7
  unfold w__law_whole_4
  walk_at "mx"
  refine ⟨⟨by decide, by decide⟩, by decide, by decide, ?_⟩
  unfold w__law_whole_5
  walk_at "mx"
  have b5' : g.natAbs < 2 ^ 109 := b5
  have b8 := mul_lt b5' b5'
  refine ⟨mulx_ok b5' b5' (by decide), by decide, ?_⟩
  generalize g * g = gg at b8
  refine ⟨_, _, at_pre (at_app0 _ _), at_app0 _ _, (show 7 + 1 ≤ 16777216 by decide), by decide, ?_⟩
  obtain ⟨_, ev, v, rfl, hv⟩ := at_all (Bi 218) (xs := [M.int ((n.fdiv 8).fmod 9 - 4), .int n, .int (0 - n), .int g, .int w, .int w, .int 0] ++ [M.int gg]) (Int.fmod_nonneg_of_pos n (show (0 : Int) < 8 by decide)) (Int.fmod_lt_of_pos n (show (0 : Int) < 8 by decide)) (by
    intro x hx
    simp only [List.mem_append, List.mem_cons, List.not_mem_nil, or_false] at hx
    rcases hx with (rfl | rfl | rfl | rfl | rfl | rfl | rfl) | rfl
    · exact ⟨_, rfl, by omega⟩
    · exact ⟨_, rfl, by omega⟩
    · exact ⟨_, rfl, by omega⟩
    · exact ⟨_, rfl, lt_up b5' (by decide)⟩
    · exact ⟨_, rfl, lt_up b7 (by decide)⟩
    · exact ⟨_, rfl, lt_up b7 (by decide)⟩
    · exact ⟨_, rfl, by decide⟩
    · exact ⟨_, rfl, b8⟩)
  refine ix_go (items_lst (at_app0 _ _)) ev ?_
  rw [List.append_assoc, List.append_assoc]
  exact q _ _ hv (s3.app _) (k2.trans (Kp.app _ _))
end Lw
end
section
set_option maxHeartbeats 2000000
namespace Lw
open PySem PySem.Spec PyProof.Rows L2 Mn
local macro_rules | `(tactic| walk_at "mx") => `(tactic| simp only [wSeq, wAsgSub, gSubM, wOp, wUn, wVar, wCon, wAsg, gN, wIf, wRet, wDrop, wTst, wAndT, wOrT, wNotT, wAndV, wOrV, wIfE, wFn, wCons, wNil, wCall, wCallK, wBm, wLst, wTup, wDct0, wNext, wFor, wRng1, wSeqI, rngQ1, wPar, wRaise, wChain, mAdd, mMul, mSub, mNeg, mFdiv, mMod, mLt, mLe, mGt, mGe, mI, startM, endD, pick, List.filterMap_cons, List.filterMap_nil, List.replicate, List.map_cons, List.map_nil, List.length_cons, List.length_nil, List.cons_append, List.nil_append, List.append_nil, List.getElem?_cons_zero, List.getElem?_cons_succ, List.set_cons_zero, List.set_cons_succ, Option.some.injEq, exists_eq_left', M.bl.injEq, M.int.injEq, M.ref.injEq, decide_eq_true_eq, Nat.reduceAdd, Nat.reduceSub, Nat.zero_add, true_and, and_true])
theorem rng_at {n i : Nat} {m : M} (h : (rngM 0 n)[i]? = some m) : i < n ∧ m = .int i := by
  have hl := (List.getElem?_eq_some_iff.mp h).1
  have hi : i < n := by simpa [rngM] using hl
  refine ⟨hi, ?_⟩
  have : (rngM 0 n)[i]? = some (.int i) := by simp [rngM, hi]
  rw [this] at h
  exact (Option.some.inj h).symm
theorem St.setD {T : Str → Addr} {ns : List Int} {c : Nat} {h : MH} {j : Nat} {o : O} (s : St T ns c h) (hj : 2 < j) : St T ns c (h.set j o) :=
  ⟨by rw [List.getElem?_set_ne (by omega)]; exact s.scr, by rw [List.getElem?_set_ne (by omega)]; exact s.tab, by rw [List.getElem?_set_ne (by omega)]; exact s.spot⟩
def IN (m : M) : Prop := ∃ a, dflI m = some a
theorem odd_ok {h : MH} {x i : Int} (bx : x.natAbs < 2 ^ 218) (i0 : 0 ≤ i) (i1 : i < 10) :
    ∃ m, atI [M.non, .bl true, .bl false, .str "1", .str "", .tup [], .ref h.length, .ref (h.length + 1), .tup [.int 1], .ref (h.length + 2)] i = some m ∧ Odv (h ++ [.lst [], .dct [], .lst [.int x]]) m := by
  obtain ⟨k, rfl⟩ := Int.eq_ofNat_of_zero_le i0
  have shm : ∀ d : PyData, d ∈ [PyData.none, .bool true, .bool false, .str "1", .str "", .tuple [], .list [], .dict [], .tuple [.int 1]] → Sh d 300 := by
    intro d hd
    refine ⟨?_, ?_⟩
    · revert d; decide +kernel
    · revert d; decide +kernel
  match k with
  | 0 => exact ⟨_, rfl, "NoneType", _, rfl, by decide, by decide, rfl, shm _ (by simp)⟩
  | 1 => exact ⟨_, rfl, "bool", _, rfl, by decide, by decide, rfl, shm _ (by simp)⟩
  | 2 => exact ⟨_, rfl, "bool", _, rfl, by decide, by decide, rfl, shm _ (by simp)⟩
  | 3 => exact ⟨_, rfl, "str", _, rfl, by decide, by decide, rfl, shm _ (by simp)⟩
  | 4 => exact ⟨_, rfl, "str", _, rfl, by decide, by decide, rfl, shm _ (by simp)⟩
  | 5 => exact ⟨_, rfl, "tuple", .tuple [], rfl, by decide, by decide, rfl, shm _ (by simp)⟩
  | 6 => exact ⟨_, rfl, "list", .list [], by unfold tyM; simp only [at_app0]; rfl, by decide, by decide, pd_lst (at_app0 _ _) rfl, shm _ (by simp)⟩
  | 7 => exact ⟨_, rfl, "dict", .dict [], by unfold tyM; simp only [at_app]; rfl, by decide, by decide, by
      show (match (h ++ [O.lst [], O.dct [], O.lst [M.int x]])[h.length + 1]? with | some (.lst xs) => (pdL (pd _ 57) xs).map PyData.list | some (.dct []) => some (.dict []) | _ => none) = _
      rw [at_app]; rfl, shm _ (by simp)⟩
  | 8 => exact ⟨_, rfl, "tuple", .tuple [.int 1], rfl, by decide, by decide, rfl, shm _ (by simp)⟩
  | 9 => exact ⟨_, rfl, "list", .list [.int x], by unfold tyM; simp only [at_app]; rfl, by decide, by decide, pd_lst (at_app _ _ 2) rfl,
      (sh_list 1 (B := 219) (fun d hd => by rw [List.mem_singleton.mp hd]; exact sh_int bx (by decide)) (Nat.le_refl _)).le (by decide)⟩
  | k + 10 => omega
theorem loop_ok {T : Str → Addr} {ns : List Int} {c : Nat} {h : MH} (s : St T ns c h) {D : MD} {x : Int} {odd lo hi : M} {o2 o6 o8 : Option M} (bx : x.natAbs < 2 ^ 218) (ho : Odv h odd) (hlo : IN lo) (hhi : IN hi)
    (q : ∀ h1 o8, St T ns c h1 → D.nx [some (.ref 0), some (.ref 2), o2, some (.int x), some lo, some hi, o6, some odd, o8, none] h1) :
    w_law_1a_4 T D [some (.ref 0), some (.ref 2), o2, some (.int x), some lo, some hi, o6, some odd, o8, none] h := by
  unfold w_law_1a_4
  walk_at "mx"
  refine ⟨by decide, by decide, _, _, ⟨rfl, rfl⟩, ?_⟩
  obtain ⟨a, ha⟩ := hlo
  obtain ⟨b, hb⟩ := hhi
  refine loop_inv _ (fun _ sm h1 => h <+: h1 ∧ ∃ o8, sm = [some (.ref 0), some (.ref 2), o2, some (.int x), some lo, some hi, o6, some odd, o8, none]) ⟨List.prefix_refl _, _, rfl⟩ ?_ ?_
  · rintro i m sm h1 hm ⟨hp, o8, rfl⟩
    have gm : Gd h m := by
      match i, hm with
      | 0, hm => exact .inl ⟨_, (Option.some.inj hm).symm, lt_up bx (by decide)⟩
      | 1, hm => exact .inl ⟨_, (Option.some.inj hm).symm, by omega⟩
      | 2, hm => exact .inl ⟨_, (Option.some.inj hm).symm, by omega⟩
      | 3, hm => rw [← Option.some.inj hm]; exact .inr ho
      | 4, hm =>
        rw [← Option.some.inj hm]
        exact .inr ⟨"tuple", .tuple [.int x], rfl, by decide, by decide, rfl, (sh_tup 1 (B := 219) (fun d hd => by rw [List.mem_singleton.mp hd]; exact sh_int bx (by decide)) (Nat.le_refl _)).le (by decide)⟩
    refine ⟨trivial, fun nx' hn => ?_⟩
    walk_at "mx"
    unfold w_law_1a4a_0
    walk_at "mx"
    refine right_ok (gm.pre hp) ⟨1, get_pre s.tab hp⟩ ha hb fun h2 p2 => ⟨true, rfl, ?_⟩
    rw [if_neg (by decide)]
    exact hn _ _ ⟨hp.trans p2, _, rfl⟩
  · rintro sm h1 ⟨hp, o8, rfl⟩
    exact ⟨trivial, q _ _ (s.pre hp)⟩
theorem body_ok {T : Str → Addr} {ns : List Int} {c : Nat} {h : MH} (s : St T ns c h) (hl : ns.length ≤ 63) (hc : c < 100000) {D : MD} {o2 o3 o4 o5 o6 o7 o8 : Option M}
    (q : ∀ h1 o3 o4 o5 o6 o7 o8, St T ns (c + 4) h1 → D.nx [some (.ref 0), some (.ref 2), o2, o3, o4, o5, o6, o7, o8, none] h1) :
    w_law_1a_0 T D [some (.ref 0), some (.ref 2), o2, o3, o4, o5, o6, o7, o8, none] h := by
  unfold w_law_1a_0
  simp only [wComp]
  walk_at "mx"
  refine ⟨⟨by decide, by decide⟩, ?_⟩
  have h3 : 2 < h.length := (List.getElem?_eq_some_iff.mp s.spot).1
  refine cloop_inv _ (fun i acc h2 => i ≤ 3 ∧ acc.length = i ∧ (∀ x ∈ acc, Bi 218 x) ∧ St T ns (c + i) h2 ∧ h2[h.length]? = some (.lst acc)) ⟨by decide, rfl, fun _ z => absurd z List.not_mem_nil, s.app _, at_app0 _ _⟩ ?_ ?_
  · rintro i m acc h2 hi ⟨hi3, hal, hab, s2, hd⟩
    obtain ⟨hi', rfl⟩ := rng_at hi
    have hi' : i < 3 := hi'
    refine ⟨trivial, fun nx2 hn2 => ?_⟩
    simp only [tgM, gN, wipeM, wYes]
    walk_at "mx"
    rw [if_pos trivial]
    refine s2.whole hl (by omega) fun v h4 hv s4 k4 => ?_
    have hd4 := k4 _ _ (by omega) hd
    refine ⟨hd4, (by show acc.length < 16777216; omega), hn2 _ _ ⟨hi', by simp [hal], ?_, ?_, ?_⟩⟩
    · intro x hx
      rcases List.mem_append.mp hx with z | z
      · exact hab x z
      · rw [List.mem_singleton.mp z]; exact ⟨_, rfl, hv⟩
    · exact s4.setD h3
    · exact List.getElem?_set_self (List.getElem?_eq_some_iff.mp hd4).1
  · rintro acc h2 ⟨_, hal, hab, s2, hd⟩
    refine ⟨trivial, hd, ?_⟩
    have hal : acc.length = 3 := hal
    have s2 : St T ns (c + 3) h2 := s2
    match acc, hal, hab, hd with
    | [x, y, z], _, hab, hd =>
      obtain ⟨x, rfl, bx⟩ := hab x (by simp)
      obtain ⟨y, rfl, bY⟩ := hab y (by simp)
      obtain ⟨z, rfl, bz⟩ := hab z (by simp)
      refine ⟨_, _, rfl, hd, rfl, _, _, rfl, ?_⟩
      walk_at "mx"
      refine ⟨_, _, rfl, ?_⟩
      walk_at "mx"
      refine ⟨_, _, rfl, ?_⟩
      walk_at "mx"
      refine ⟨rfl, ?_⟩
      clear hab hd
      unfold w_law_1a_1
      walk_at "mx"
      refine s2.cell hl (by omega) fun n h4 n0 n1 s4 _ => ?_
      unfold w_law_1a_2
      walk_at "mx"
      refine ⟨by decide, by decide, ?_⟩
      obtain ⟨lo, el, hlo⟩ := at_all IN (xs := [M.int y, M.non, M.int x]) (Int.fmod_nonneg_of_pos n (show (0 : Int) < 3 by decide)) (Int.fmod_lt_of_pos n (show (0 : Int) < 3 by decide)) (by
        intro x hx
        simp only [List.mem_cons, List.not_mem_nil, or_false] at hx
        rcases hx with rfl | rfl | rfl <;> exact ⟨_, rfl⟩)
      refine ix_go (items_lst (at_app0 _ _)) el ⟨by decide, ⟨by decide, by decide⟩, by decide, ?_⟩
      obtain ⟨hi, eh, hhi⟩ := at_all IN (xs := [M.int z, M.non, M.int x]) (Int.fmod_nonneg_of_pos (n.fdiv 3) (show (0 : Int) < 3 by decide)) (Int.fmod_lt_of_pos (n.fdiv 3) (show (0 : Int) < 3 by decide)) (by
        intro x hx
        simp only [List.mem_cons, List.not_mem_nil, or_false] at hx
        rcases hx with rfl | rfl | rfl <;> exact ⟨_, rfl⟩)
      refine ix_go (items_lst (at_app0 _ _)) eh ⟨_, _, rfl, ?_⟩
      have s5 := (s4.app [O.lst [M.int y, M.non, M.int x]]).app [O.lst [M.int z, M.non, M.int x]]
      generalize h4 ++ [O.lst [M.int y, M.non, M.int x]] ++ [O.lst [M.int z, M.non, M.int x]] = h5 at s5
      unfold w_law_1a_3
      walk_at "mx"
      refine ⟨by decide, by decide, by decide, by decide, by decide, ⟨by decide, by decide⟩, by decide, ?_⟩
      obtain ⟨o, eo, ho⟩ := odd_ok (h := h5) bx (Int.fmod_nonneg_of_pos (n.fdiv 9) (show (0 : Int) < 10 by decide)) (Int.fmod_lt_of_pos (n.fdiv 9) (show (0 : Int) < 10 by decide))
      refine ix_go (items_lst (at_app0 _ _)) (by simpa only [List.length_append, List.length_singleton] using eo) ?_
      simp only [List.append_assoc, List.cons_append, List.nil_append, List.length_append, List.length_cons, List.length_nil]
      have s6 := s5.app (O.lst [] :: O.dct [] :: O.lst [M.int x] :: [O.lst [M.non, .bl true, .bl false, .str "1", .str "", .tup [], .ref h5.length, .ref (h5.length + 1), .tup [.int 1], .ref (h5.length + 2)]])
      refine loop_ok s6 bx (ho.pre ⟨_, by rw [List.append_assoc]; rfl⟩) hlo hhi fun h7 o8 s7 => q _ _ _ _ _ _ _ s7
theorem two_ok {T : Str → Addr} {ns : List Int} {c : Nat} {h : MH} (s : St T ns c h) {D : MD} {x : Int} {o2 o4 o5 o6 o7 o8 : Option M} (bx : x.natAbs < 2 ^ 218)
    (q : ∀ h1, St T ns c h1 → D.nx [some (.ref 0), some (.ref 2), o2, some (.int x), o4, o5, o6, o7, o8, none] h1) :
    w_law_2a_0 T D [some (.ref 0), some (.ref 2), o2, some (.int x), o4, o5, o6, o7, o8, none] h := by
  have gi : ∀ (i : Int) (h : MH), i.natAbs < 2 ^ 221 → Gd h (.int i) := fun i h b => .inl ⟨i, rfl, b⟩
  unfold w_law_2a_0
  walk_at "mx"
  refine right_ok (gi _ _ (lt_up bx (by decide))) ⟨1, s.tab⟩ rfl rfl fun h1 p1 => ⟨true, rfl, ?_⟩
  rw [if_neg (by decide)]
  refine right_ok (gi _ _ (by omega)) ⟨1, get_pre s.tab p1⟩ rfl rfl fun h2 p2 => ⟨true, rfl, ?_⟩
  rw [if_neg (by decide)]
  unfold w_law_2a_1
  walk_at "mx"
  refine right_ok (gi _ _ (by omega)) ⟨1, get_pre s.tab (p1.trans p2)⟩ rfl rfl fun h3 p3 => ⟨true, rfl, ?_⟩
  rw [if_neg (by decide)]
  exact q _ (s.pre ((p1.trans p2).trans p3))
theorem law_plain (T : Str → Addr) (ns : List Int) (h1 : ns.length ≤ 63) (h2 : ∀ z ∈ ns, Builtin.Int.intBits z ≤ 1048576) : r_law T [.ref 0] (mh0 ns (lamDefs.map fun x => (T x, qLam x))) (fun m _ => m = .bl true) fun _ _ => False := by
  refine ⟨rfl, ?_⟩
  unfold w_law mh0 lamDefs
  walk_at "mx"
  refine ⟨by decide, ?_⟩
  have s : St T ns 0 [O.rol (ns.map M.int), .tab (T "_law_right") (qLam "_law_right"), .lst [.int 0]] := ⟨rfl, rfl, rfl⟩
  generalize [O.rol (ns.map M.int), .tab (T "_law_right") (qLam "_law_right"), .lst [.int 0]] = h at s
  unfold w_law_1
  walk_at "mx"
  simp only [fl_eq (items_rol s.scr)]
  refine ⟨_, _, rfl, ?_⟩
  have hb : ∃ n : Nat, n ≤ 12 ∧ (3 : Int) + (if ((List.map M.int ns).length : Int) < 9 then ((List.map M.int ns).length : Int) else 9) = n := by
    split
    · exact ⟨3 + (List.map M.int ns).length, by omega, by omega⟩
    · exact ⟨12, by omega, rfl⟩
  obtain ⟨n, hn, en⟩ := hb
  show Mn.RgOk (3 + _) ∧ wLoop _ _ _ (rngM 0 ((3 : Int) + _).toNat) _ _ _
  rw [en]
  refine ⟨⟨by omega, by omega⟩, ?_⟩
  refine loop_inv _ (fun i sm h => ∃ o2 o3 o4 o5 o6 o7 o8, sm = [some (.ref 0), some (.ref 2), o2, o3, o4, o5, o6, o7, o8, none] ∧ St T ns (4 * i) h) ⟨_, _, _, _, _, _, _, rfl, s⟩ ?_ ?_
  · rintro i x sm h3 hx ⟨o2, o3, o4, o5, o6, o7, o8, rfl, s3⟩
    obtain ⟨hi, rfl⟩ := rng_at hx
    rw [Int.toNat_natCast] at hi
    refine ⟨trivial, fun nx' hn => ?_⟩
    walk_at "mx"
    exact body_ok s3 h1 (by omega) fun h4 o3 o4 o5 o6 o7 o8 s4 => hn _ _ ⟨_, _, _, _, _, _, _, rfl, s4⟩
  · rintro sm h3 ⟨o2, o3, o4, o5, o6, o7, o8, rfl, s3⟩
    refine ⟨trivial, ?_⟩
    unfold w_law_2
    walk_at "mx"
    refine ⟨p30, p30, p30, b30, p30, b30, by decide, _, _, ⟨rfl, rfl⟩, ?_⟩
    refine loop_inv _ (fun i sm h => ∃ o2 o3 o4 o5 o6 o7 o8, sm = [some (.ref 0), some (.ref 2), o2, o3, o4, o5, o6, o7, o8, none] ∧ ∃ c, St T ns c h) ⟨_, _, _, _, _, _, _, rfl, _, s3⟩ ?_ ?_
    · rintro i x sm h3 hx ⟨o2, o3, o4, o5, o6, o7, o8, rfl, c, s3⟩
      obtain ⟨x, rfl, bx⟩ : Bi 218 x := by
        match i, hx with
        | 0, hx => exact ⟨_, (Option.some.inj hx).symm, by decide +kernel⟩
        | 1, hx => exact ⟨_, (Option.some.inj hx).symm, by decide +kernel⟩
        | 2, hx => exact ⟨_, (Option.some.inj hx).symm, by decide +kernel⟩
        | 3, hx => exact ⟨_, (Option.some.inj hx).symm, by decide +kernel⟩
      refine ⟨trivial, fun nx' hn => ?_⟩
      walk_at "mx"
      exact two_ok s3 bx fun h4 s4 => hn _ _ ⟨_, _, _, _, _, _, _, rfl, _, s4⟩
    · rintro sm h4 _
      refine ⟨trivial, ?_⟩
      unfold w_law_3
      walk_at "mx"
      refine ⟨by decide, p30, p30, b30, by decide, ?_⟩
      refine eq_ref ⟨.list [.int 1000000000000000000000000000000, .int 2000000000000000000000000000000], .list [.int 1000000000000000000000000000000, .int 2000000000000000000000000000000], pd_lst (at_pre (at_app0 _ _)) rfl, pd_lst (at_app0 _ _) rfl, by decide +kernel, by decide +kernel, ?_⟩
      exact congrArg M.bl (by decide +kernel)
end Lw
end
section
set_option maxHeartbeats 0
namespace Lw
open PySem PySem.Spec PyProof.Rows L2 Mn
def fnL : List He.DefD := [⟨("is_integer", none), "is_integer", "is_integer", defArgs (top 14), defBody (top 14), defScope (top 14), [], [("least", .non), ("most", .non)]⟩,
  ⟨("is_place", none), "is_place", "is_place", defArgs (top 15), defBody (top 15), defScope (top 15), [], []⟩,
  ⟨("check_place", none), "check_place", "check_place", defArgs (top 16), defBody (top 16), defScope (top 16), [], []⟩,
  ⟨("check_distance", none), "check_distance", "check_distance", defArgs (top 17), defBody (top 17), defScope (top 17), [], []⟩,
  ⟨("_law_cell", none), "_law_cell", "_law_cell", defArgs (top 19), defBody (top 19), defScope (top 19), [], []⟩,
  ⟨("_law_told", none), "_law_told", "_law_told", defArgs (top 20), defBody (top 20), defScope (top 20), [], []⟩,
  ⟨("_law_same", none), "_law_same", "_law_same", defArgs (top 21), defBody (top 21), defScope (top 21), [], []⟩,
  ⟨("_law_whole", none), "_law_whole", "_law_whole", defArgs (top 22), defBody (top 22), defScope (top 22), [], []⟩,
  ⟨("_law_within", none), "_law_within", "_law_within", defArgs (top 23), defBody (top 23), defScope (top 23), [], []⟩,
  ⟨("_law_right", none), "_law_right", "_law_right", defArgs (top 24), defBody (top 24), defScope (top 24), [], []⟩,
  ⟨("law", none), "law", "law", defArgs (top 25), defBody (top 25), defScope (top 25), [], []⟩,
  ⟨("InvalidDistance", some "__init__"), "__init__", "InvalidDistance.__init__", defArgs ((defBodyC (top 4)).getD 0 (.Pass ⟨0, 0, 0, 0⟩)), defBody ((defBodyC (top 4)).getD 0 (.Pass ⟨0, 0, 0, 0⟩)), defScope ((defBodyC (top 4)).getD 0 (.Pass ⟨0, 0, 0, 0⟩)), [], []⟩,
  ⟨("InvalidPlace", some "__init__"), "__init__", "InvalidPlace.__init__", defArgs ((defBodyC (top 3)).getD 0 (.Pass ⟨0, 0, 0, 0⟩)), defBody ((defBodyC (top 3)).getD 0 (.Pass ⟨0, 0, 0, 0⟩)), defScope ((defBodyC (top 3)).getD 0 (.Pass ⟨0, 0, 0, 0⟩)), [], []⟩]
def tfL : List He.Defn := [("_law_right", none)]
def exL (K : PySem.W.Frag) : List Bool := [(K.lookup sysModules).isSome,
  (He.Fa.glo "InvalidBag").ok K,
  (He.Fa.glo "InvalidDistance").ok K,
  (He.Fa.glo "InvalidNumber").ok K,
  (He.Fa.glo "InvalidPlace").ok K,
  (He.Fa.glo "InvalidRow").ok K,
  (He.Fa.glo "NoStone").ok K,
  (He.Fa.glo "OutOfBounds").ok K,
  (He.Fa.glo "StoneError").ok K,
  (He.Fa.glo "TooManyStones").ok K,
  (He.Fa.glo "WalkError").ok K,
  (He.Fa.glo "_law_cell").ok K,
  (He.Fa.glo "_law_right").ok K,
  (He.Fa.glo "_law_same").ok K,
  (He.Fa.glo "_law_told").ok K,
  (He.Fa.glo "_law_whole").ok K,
  (He.Fa.glo "_law_within").ok K,
  (He.Fa.glo "check_distance").ok K,
  (He.Fa.glo "check_place").ok K,
  (He.Fa.glo "is_integer").ok K,
  (He.Fa.glo "is_place").ok K,
  (He.Fa.glo "law").ok K,
  (He.Fa.free "RuntimeError").ok K,
  (He.Fa.free "ValueError").ok K,
  (He.Fa.free "bool").ok K,
  (He.Fa.free "int").ok K,
  (He.Fa.free "isinstance").ok K,
  (He.Fa.free "len").ok K,
  (He.Fa.free "min").ok K,
  (He.Fa.free "range").ok K,
  (He.Fa.free "repr").ok K,
  (He.Fa.int "MAX_DISTANCE" 2000000000000000000000000000000).ok K,
  (He.Fa.int "MAX_PLACE" 1000000000000000000000000000000).ok K,
  mkB K (He.ga K "InvalidDistance") vTail "ValueError.__new__",
  baseB K (He.ga K "StoneError") "ValueError.__init__",
  decide (PySem.W.findIn K (.ref (He.ga K "InvalidDistance")) "value" = some none),
  decide (PySem.W.findIn K (.ref (He.ga K "InvalidDistance")) "__init__" = some (some (.ref (He.fAd K ("InvalidDistance", some "__init__"))))),
  decide (PySem.W.typeIn K (.ref (He.fAd K ("InvalidDistance", some "__init__"))) = some (.type "function")),
  mkB K (He.ga K "InvalidPlace") vTail "ValueError.__new__",
  baseB K (He.ga K "StoneError") "ValueError.__init__",
  decide (PySem.W.findIn K (.ref (He.ga K "InvalidPlace")) "value" = some none),
  decide (PySem.W.findIn K (.ref (He.ga K "InvalidPlace")) "__init__" = some (some (.ref (He.fAd K ("InvalidPlace", some "__init__"))))),
  decide (PySem.W.typeIn K (.ref (He.fAd K ("InvalidPlace", some "__init__"))) = some (.type "function")),
  xcs.all fun C => exkB K (He.ga K C),
  xcs.all fun C => decide (PySem.W.findIn K (.ref (He.ga K C)) "limit" = some none),
  xcs.all fun C => decide (PySem.W.findIn K (.ref (He.ga K C)) "position" = some none),
  xcs.all fun C => decide (PySem.W.findIn K (.ref (He.ga K C)) "value" = some none),
  xcs.all fun C => decide (PySem.W.exmAny K (.ref (He.ga K C)) [.ref (He.ga K "StoneError"), .ref (He.ga K "WalkError")] = some (xcat C)),
  xcs.all fun C => (["InvalidBag", "InvalidDistance", "InvalidNumber", "InvalidPlace", "InvalidRow", "NoStone", "OutOfBounds", "StoneError", "TooManyStones", "WalkError"] : List Str).all fun x => decide (PySem.W.kitOne K (.ref (He.ga K C)) (.ref (He.ga K x)) = xtI C (.glo x)),
  xcs.all fun C => (["RuntimeError", "ValueError"] : List String).all fun x => decide (PySem.W.kitOne K (.ref (He.ga K C)) (.type x) = xtI C (.ty x)),
  noLst K,
  decide ((tfL.map fun p => (He.cT K p).2).Nodup)]
def exB (K : PySem.W.Frag) : Bool := (exL K).all id
theorem fx_of {K : PySem.W.Frag} {h : Heap} {mg : Str → Option Value} (X : K.In h) (N : h.Ns mainGlobals mg) (c : SaysM fnL tfL exB h K) : FX K mg where
  sm := Option.isSome_iff_exists.mp (all_at' c.more 0 rfl)
  d_is_integer := c.d.def_ 0 rfl
  d_is_place := c.d.def_ 1 rfl
  d_check_place := c.d.def_ 2 rfl
  d_check_distance := c.d.def_ 3 rfl
  d__law_cell := c.d.def_ 4 rfl
  d__law_told := c.d.def_ 5 rfl
  d__law_same := c.d.def_ 6 rfl
  d__law_whole := c.d.def_ 7 rfl
  d__law_within := c.d.def_ 8 rfl
  d__law_right := c.d.def_ 9 rfl
  d_law := c.d.def_ 10 rfl
  g_InvalidBag := He.glo_ok X N (all_at' c.more 1 rfl)
  g_InvalidDistance := He.glo_ok X N (all_at' c.more 2 rfl)
  g_InvalidNumber := He.glo_ok X N (all_at' c.more 3 rfl)
  g_InvalidPlace := He.glo_ok X N (all_at' c.more 4 rfl)
  g_InvalidRow := He.glo_ok X N (all_at' c.more 5 rfl)
  g_NoStone := He.glo_ok X N (all_at' c.more 6 rfl)
  g_OutOfBounds := He.glo_ok X N (all_at' c.more 7 rfl)
  g_StoneError := He.glo_ok X N (all_at' c.more 8 rfl)
  g_TooManyStones := He.glo_ok X N (all_at' c.more 9 rfl)
  g_WalkError := He.glo_ok X N (all_at' c.more 10 rfl)
  g__law_cell := He.glo_ok X N (all_at' c.more 11 rfl)
  g__law_right := He.glo_ok X N (all_at' c.more 12 rfl)
  g__law_same := He.glo_ok X N (all_at' c.more 13 rfl)
  g__law_told := He.glo_ok X N (all_at' c.more 14 rfl)
  g__law_whole := He.glo_ok X N (all_at' c.more 15 rfl)
  g__law_within := He.glo_ok X N (all_at' c.more 16 rfl)
  g_check_distance := He.glo_ok X N (all_at' c.more 17 rfl)
  g_check_place := He.glo_ok X N (all_at' c.more 18 rfl)
  g_is_integer := He.glo_ok X N (all_at' c.more 19 rfl)
  g_is_place := He.glo_ok X N (all_at' c.more 20 rfl)
  g_law := He.glo_ok X N (all_at' c.more 21 rfl)
  z_RuntimeError := He.free_ok X N (all_at' c.more 22 rfl)
  z_ValueError := He.free_ok X N (all_at' c.more 23 rfl)
  z_bool := He.free_ok X N (all_at' c.more 24 rfl)
  z_int := He.free_ok X N (all_at' c.more 25 rfl)
  z_isinstance := He.free_ok X N (all_at' c.more 26 rfl)
  z_len := He.free_ok X N (all_at' c.more 27 rfl)
  z_min := He.free_ok X N (all_at' c.more 28 rfl)
  z_range := He.free_ok X N (all_at' c.more 29 rfl)
  z_repr := He.free_ok X N (all_at' c.more 30 rfl)
  i_MAX_DISTANCE := He.int_ok X N (all_at' c.more 31 rfl)
  i_MAX_PLACE := He.int_ok X N (all_at' c.more 32 rfl)
  n_InvalidDistance := c.d.def_ 11 rfl
  m_InvalidDistance := mkB_ok (all_at' c.more 33 rfl)
  b_InvalidDistance := baseB_ok (all_at' c.more 34 rfl)
  f_InvalidDistance := of_decide_eq_true (all_at' c.more 35 rfl)
  a_InvalidDistance := of_decide_eq_true (all_at' c.more 36 rfl)
  t_InvalidDistance := of_decide_eq_true (all_at' c.more 37 rfl)
  n_InvalidPlace := c.d.def_ 12 rfl
  m_InvalidPlace := mkB_ok (all_at' c.more 38 rfl)
  b_InvalidPlace := baseB_ok (all_at' c.more 39 rfl)
  f_InvalidPlace := of_decide_eq_true (all_at' c.more 40 rfl)
  a_InvalidPlace := of_decide_eq_true (all_at' c.more 41 rfl)
  t_InvalidPlace := of_decide_eq_true (all_at' c.more 42 rfl)
  xk := fun C hC => exkB_ok (List.all_eq_true.mp (all_at' c.more 43 rfl) C hC)
  xn_limit := fun C hC => of_decide_eq_true (List.all_eq_true.mp (all_at' c.more 44 rfl) C hC)
  xn_position := fun C hC => of_decide_eq_true (List.all_eq_true.mp (all_at' c.more 45 rfl) C hC)
  xn_value := fun C hC => of_decide_eq_true (List.all_eq_true.mp (all_at' c.more 46 rfl) C hC)
  x_catch := fun C hC => of_decide_eq_true (List.all_eq_true.mp (all_at' c.more 47 rfl) C hC)
  x_isi := fun C hC x hx => of_decide_eq_true (List.all_eq_true.mp (List.all_eq_true.mp (all_at' c.more 48 rfl) C hC) x hx)
  x_isT := fun C hC x hx => of_decide_eq_true (List.all_eq_true.mp (List.all_eq_true.mp (all_at' c.more 49 rfl) C hC) x hx)
abbrev R : PySem.W.OpenRow := PySem.W.OpenLaw.row PySem.Challenge.rw_stonewalk_k01_integers_and_places
abbrev hk : PySem.W.Hook := hookM 4 fnL tfL exB
def ob (s : PySem.W.SharedT) : AlM := obsM 4 fnL tfL exB (HandSHeadRun.getT s)
theorem ob_eq (s : PySem.W.SharedT) : ob s = hk.obs s.abs := obsM_eq (HandSHeadRun.getT_eq s)
def names : List Str := ["StoneError", "WalkError", "InvalidPlace", "InvalidDistance", "InvalidBag", "InvalidRow", "InvalidNumber", "NoStone", "TooManyStones", "OutOfBounds", "MAX_PLACE", "MAX_DISTANCE", "is_integer", "is_place", "check_place", "check_distance", "_law_cell", "_law_told", "_law_same", "_law_whole", "_law_within", "_law_right"]
theorem run (w : World) : HandSHeadRun.RunEq R (PySem.W.view R.prog [25]) hk ob 40000 names w := by
  intro os
  kernel_rfl
theorem law_at {K : PySem.W.Frag} {w : World} {h : Heap} {mg : Str → Option Value} {fa : Addr} (X : K.In h) (N : h.Ns mainGlobals mg) (hfa : mg "law" = some (.ref fa)) (c : SaysM fnL tfL exB h K) : LawM PySem.Challenge.rw_stonewalk_k01_integers_and_places w K 7 63 "script" mg fa h := by
  have G := fx_of X N c
  obtain ⟨fd, D⟩ := G.d_law
  have e := hfa.symm.trans G.g_law
  cases e
  have eT : (tfL.map fun p => ((He.cT K p).1, (He.cT K p).2, qLam p.1)).map (·.2) = lamDefs.map fun x => ((He.cT K (x, none)).2, qLam x) := rfl
  refine ⟨fd, tfL.map fun p => ((He.cT K p).1, (He.cT K p).2, qLam p.1), r_law (fun x => (He.cT K (x, none)).2), all_at' c.more 50 rfl, fun p hp => ?_, fun p hp => ?_, fun p hp => ?_, ?_, fun s u => FunD.bindsA (ps := ["script"]) D (fun _ _ _ _ _ _ us hl => match us, hl with | [_], _ => rfl) s [u] rfl, fun ns h1 h2 => ?_, fun base KB NB TB => ?_⟩
  · obtain ⟨q, hq, rfl⟩ := List.mem_map.mp hp
    exact c.empty q hq
  · obtain ⟨q, hq, rfl⟩ := List.mem_map.mp hp
    exact c.out q hq
  · obtain ⟨q, hq, rfl⟩ := List.mem_map.mp hp
    exact PySem.W.codeHd_of_K X (c.hd q hq)
  · have z : (tfL.map fun p => (He.cT K p).2).Nodup := of_decide_eq_true (all_at' c.more 51 rfl)
    rw [List.map_map]
    exact z
  · rw [eT]
    exact law_plain (fun x => (He.cT K (x, none)).2) ns h1 h2
  · obtain ⟨fd', D', F⟩ := ok_law (P := (PySem.Challenge.rw_stonewalk_k01_integers_and_places).prog) (w := w) (base := base) G (fun x hx => TB (_, _, qLam x) (List.mem_map.mpr ⟨(x, none), by simpa [lamDefs, tfL] using hx, rfl⟩))
    obtain ⟨_, _, _, _, _, _, _, _, _, _, rfl, l1, _⟩ := D.ex
    obtain ⟨_, _, _, _, _, _, _, _, _, _, rfl, l2, _⟩ := D'.ex
    rw [l1] at l2
    cases l2
    exact F
end Lw
section
open PySem PySem.W PySem.Calls PyProof.Rows
theorem PySem.Challenge.cw_stonewalk_k01_integers_and_places_holds : PySem.Challenge.rw_stonewalk_k01_integers_and_places.Holds := by
  w_on; o_law
  refine HandSHeadRun.head_any (r := OpenLaw.row PySem.Challenge.rw_stonewalk_k01_integers_and_places) (q := view (OpenLaw.row PySem.Challenge.rw_stonewalk_k01_integers_and_places).prog [25]) (H := Lw.hk) (ob := Lw.ob) (M := 40000) (loose := Lw.names) (d := HandSHeadRun.topDef (OpenLaw.row PySem.Challenge.rw_stonewalk_k01_integers_and_places).prog 25) (kwd := []) Lw.ob_eq
    (by kernel_rfl) (fun s => by kernel_rfl) Lw.run (by kernel_rfl) (by kernel_rfl) (by kernel_rfl) (by rfl) (by first | assumption | decide +kernel) (by decide +kernel) ⟨rfl, rfl, rfl, rfl, rfl, by decide +kernel⟩ ?hw ?hc
  case hw => w_witness2
  case hc =>
    refine Mn.walk_M (l := PySem.Challenge.rw_stonewalk_k01_integers_and_places) (n := 63) (k := 7) (x := "script") rfl (by decide) (by kernel_rfl) ⟨⟨rfl, by decide, by decide⟩, rfl⟩ ?F
    intro w mg fa h Y G hmg0
    obtain ⟨K, KX, c⟩ := Y
    have hmg : mg ("law" : PySem.Str) = some (.ref fa) := by
      have e : (HandSHeadRun.topDef (OpenLaw.row PySem.Challenge.rw_stonewalk_k01_integers_and_places).prog 25).name = ("law" : PySem.Str) := by kernel_rfl
      rw [← e]
      exact hmg0
    exact ⟨K, KX, Lw.law_at KX G hmg c⟩
end
end
