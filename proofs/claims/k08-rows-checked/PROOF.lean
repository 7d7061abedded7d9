import PyProof.Rows.All
import Wide.All
import OpenK.AllK
import Wide.FinOn
import HandS.ForMost
import HandS.ForExc
import HandS.HeadHook1
import HandS.Lambda
import HandS.TupMul
import PyProof.Rows.RuleB_bool
import HandS.TupAny
import HandS.Wide
import HandS.WideBits
import HandS.Defaults
import KE.GoesNew
import KE.GoesZip
import KE.GoesMore
import KE.GoesEnum
import HandS.Deep
import HandS.Conv
import HandS.IsInst
import HandS.RevTup
import HandS.Style
import HandS.RaiseMore
import HandS.ExcIs
import HandS.ExcField
import KE.KExcHand
import HandS.SortInts
import HandS.SetFor
import HandS.StrMore
import PyProof.ReprRoads
import KE.KExcIs
import PyProof.EqAt
import HandS.ExcInit
import HandS.ExcOwn
import KE.KExcInit
import PyProof.ExcBaseAll.RuntimeError
import HandS.EndTab
import HandS.HeadHook4
import PyProof.EnumMake
import KE.KTurns
import HandS.Zip
import KE.KNestM
import KE.KStateDown
import HandS.Head0
import HandS.Head1
import HandS.Head2
import HandS.HeadEnd
import PySem.Challenge.RW_stonewalk_k08_rows_checked
set_option Elab.async false
set_option linter.all false
set_option maxRecDepth 100000
set_option maxHeartbeats 2000000
section
set_option maxHeartbeats 2000000
namespace Mn
open PySem PySem.Spec PyProof.Rows L2

/-! ### values and objects of the small world -/
inductive M where
  | non
  | bl (b : Bool)
  | int (i : Int)
  | str (s : Str)
  | tup (xs : List M)
  | ref (n : Nat)
  | glo (x : Str)
  | exc (C : Str) (ks : List Str) (vs : List M)
  | ty (n : String)
  /-- a lambda: its object, its code, its name, the maker's slots (those told by bs hold ms) -/
  | lam (a c : Addr) (q : Str) (σ : L2.St) (bs : List Bool) (ms : List M)
inductive O where
  | lst (xs : List M)
  | rol (xs : List M)
  | dct (kvs : List (M × M))
  | ins (C : Str) (ks : List Str) (vs : List M)
  /-- a table of code objects -/
  | tab (P : Addr) (q : Str)
abbrev MH := List O
abbrev MS := List (Option M)

/-! ### what stays -/
def Stb : HO → Prop
  | .tup _ => True
  | .frz _ _ => True
  | .xd _ => True
  | .ext _ => True
  | _ => False
def Ext (H H' : Hp) : Prop := ∀ b o, H b = some o → Stb o → H' b = some o
theorem Ext.refl (H : Hp) : Ext H H := fun _ _ h _ => h
theorem Ext.trans {H H1 H2 : Hp} (a : Ext H H1) (b : Ext H1 H2) : Ext H H2 := fun c o h s => b c o (a c o h s) s
theorem Ext.new {H : Hp} {p : Addr} {o : HO} (h : H p = none) : Ext H (upd H p o) := fun b u e _ => by
  rw [upd_ne (ne_of_none e h)]; exact e
theorem Ext.put {H : Hp} {p : Addr} {o u : HO} (h : H p = some u) (n : ¬ Stb u) : Ext H (upd H p o) := fun b w e s => by
  rw [upd_ne]; exact e
  rintro rfl
  rw [h] at e; cases e; exact n s

def ExO (a : Addr) (cls : Value) (d : Option Addr) : HO := .ext fun h => ∃ oe vs, h.get? a = some oe ∧ oe.cls = cls ∧ oe.dict = d ∧ oe.data = .fields vs

/-! ### a value of the small world stands for one of the layer's -/
mutual
def RV (K : PySem.W.Frag) (f : List Addr) (H : Hp) : M → V → Prop
  | .non, v => v = .non
  | .bl b, v => v = .bl b
  | .int i, v => v = .int i
  | .str s, v => v = .str s
  | .tup xs, v => ∃ a vs, v = .ref a ∧ SqT K H a vs ∧ RVs K f H xs vs
  | .ref n, v => ∃ a, v = .ref a ∧ f[n]? = some a
  | .glo x, v => v = .ref (He.ga K x)
  | .exc C ks vs, v => ∃ a d us, v = .ref a ∧ H a = some (ExO a (.ref (He.ga K C)) (some d)) ∧ H d = some (.xd (ks.zip us)) ∧ us.length = ks.length ∧ RVs K f H vs us
  | .ty n, v => v = .ty n
  | .lam a c q σ bs ms, v => v = .ref a ∧ H c = some (LamX.CodeO c q) ∧ ∃ vs, RVs K f H ms vs ∧ vs.length = σ.length ∧ ∀ (i : Nat) u, bs[i]? = some true → vs[i]? = some u → σ[i]? = some (some u)
def RVs (K : PySem.W.Frag) (f : List Addr) (H : Hp) : List M → List V → Prop
  | [], vs => vs = []
  | x :: xs, vs => ∃ v r, vs = v :: r ∧ RV K f H x v ∧ RVs K f H xs r
end
section
variable {K : PySem.W.Frag} {f f' : List Addr} {H H' : Hp}
theorem SqT.ext {a : Addr} {vs : List V} (h : SqT K H a vs) (e : Ext H H') : SqT K H' a vs := by
  rcases h with (h | ⟨o, h⟩) | h
  · exact .inl (.inl (e _ _ h trivial))
  · exact .inl (.inr ⟨o, e _ _ h trivial⟩)
  · exact .inr h
theorem get_pre {α : Type} {l l' : List α} {n : Nat} {a : α} (p : l <+: l') (h : l[n]? = some a) : l'[n]? = some a := by
  obtain ⟨r, rfl⟩ := p
  rw [List.getElem?_append_left]
  · exact h
  · exact (List.getElem?_eq_some_iff.mp h).1
mutual
theorem RV.mono : ∀ {m : M} {v : V}, RV K f H m v → f <+: f' → Ext H H' → RV K f' H' m v
  | .non, _, h, _, _ => h
  | .bl _, _, h, _, _ => h
  | .int _, _, h, _, _ => h
  | .str _, _, h, _, _ => h
  | .tup _, _, ⟨a, vs, e, s, r⟩, p, x => ⟨a, vs, e, SqT.ext s x, RVs.mono r p x⟩
  | .ref _, _, ⟨a, e, s⟩, p, x => ⟨a, e, get_pre p s⟩
  | .glo _, _, h, _, _ => h
  | .exc _ _ _, _, ⟨a, d, us, e, h1, h2, h3, r⟩, p, x => ⟨a, d, us, e, x _ _ h1 trivial, x _ _ h2 trivial, h3, RVs.mono r p x⟩
  | .ty _, _, h, _, _ => h
  | .lam _ _ _ _ _ _, _, ⟨e, h1, vs, r, l, g⟩, p, x => ⟨e, x _ _ h1 trivial, vs, RVs.mono r p x, l, g⟩
theorem RVs.mono : ∀ {ms : List M} {vs : List V}, RVs K f H ms vs → f <+: f' → Ext H H' → RVs K f' H' ms vs
  | [], _, h, _, _ => h
  | _ :: _, _, ⟨v, r, e, h, t⟩, p, x => ⟨v, r, e, RV.mono h p x, RVs.mono t p x⟩
end
theorem RVs.length : ∀ {ms : List M} {vs : List V}, RVs K f H ms vs → ms.length = vs.length
  | [], _, h => by cases h; rfl
  | _ :: _, _, ⟨v, r, e, _, t⟩ => by subst e; simp [RVs.length t]
theorem RVs.get : ∀ {ms : List M} {vs : List V} {i : Nat} {m : M}, RVs K f H ms vs → ms[i]? = some m → ∃ v, vs[i]? = some v ∧ RV K f H m v
  | [], _, _, _, _, e => by simp at e
  | _ :: _, _, 0, _, ⟨v, r, e, h, _⟩, e2 => by subst e; simp at e2; subst e2; exact ⟨v, rfl, h⟩
  | _ :: _, _, i + 1, _, ⟨v, r, e, _, t⟩, e2 => by
    subst e
    obtain ⟨u, h1, h2⟩ := RVs.get (i := i) t (by simpa using e2)
    exact ⟨u, by simpa using h1, h2⟩
theorem RVs.getv {ms : List M} {vs : List V} {i : Nat} {v : V} (h : RVs K f H ms vs) (e : vs[i]? = some v) : ∃ m, ms[i]? = some m ∧ RV K f H m v := by
  have l := h.length
  have hi : i < vs.length := (List.getElem?_eq_some_iff.mp e).1
  obtain ⟨u, h1, h2⟩ := RVs.get (i := i) (m := ms[i]'(by omega)) h (by simp)
  rw [e] at h1; cases h1
  exact ⟨_, by simp, h2⟩
theorem RVs.append : ∀ {ms ns : List M} {vs us : List V}, RVs K f H ms vs → RVs K f H ns us → RVs K f H (ms ++ ns) (vs ++ us)
  | [], _, _, _, h, t => by cases h; exact t
  | _ :: _, _, _, _, ⟨v, r, e, h, q⟩, t => by subst e; exact ⟨v, _, rfl, h, RVs.append q t⟩
theorem RVs.take : ∀ {ms : List M} {vs : List V} (n : Nat), RVs K f H ms vs → RVs K f H (ms.take n) (vs.take n)
  | [], _, n, h => by cases h; simp [RVs]
  | _ :: _, _, 0, h => by simp [RVs]
  | _ :: _, _, n + 1, ⟨v, r, e, h, t⟩ => by subst e; exact ⟨v, _, rfl, h, RVs.take n t⟩
theorem RVs.drop : ∀ {ms : List M} {vs : List V} (n : Nat), RVs K f H ms vs → RVs K f H (ms.drop n) (vs.drop n)
  | [], _, n, h => by cases h; simp [RVs]
  | _ :: _, _, 0, h => h
  | _ :: _, _, n + 1, ⟨v, r, e, h, t⟩ => by subst e; exact RVs.drop n t
theorem RVs.set : ∀ {ms : List M} {vs : List V} (n : Nat) {m : M} {v : V}, RVs K f H ms vs → RV K f H m v → RVs K f H (ms.set n m) (vs.set n v)
  | [], _, n, _, _, h, _ => by cases h; simp [RVs]
  | _ :: _, _, 0, _, _, ⟨v, r, e, h, t⟩, q => by subst e; exact ⟨_, _, rfl, q, t⟩
  | _ :: _, _, n + 1, _, _, ⟨v, r, e, h, t⟩, q => by subst e; exact ⟨v, _, rfl, h, RVs.set n t q⟩
theorem RVs.reverse : ∀ {ms : List M} {vs : List V}, RVs K f H ms vs → RVs K f H ms.reverse vs.reverse
  | [], _, h => by cases h; simp [RVs]
  | _ :: _, _, ⟨v, r, e, h, t⟩ => by
    subst e
    rw [List.reverse_cons, List.reverse_cons]
    exact RVs.append (RVs.reverse t) ⟨v, [], rfl, h, rfl⟩
theorem RVs.nil_iff {ms : List M} {vs : List V} (h : RVs K f H ms vs) : ms = [] ↔ vs = [] := by
  have := h.length
  constructor
  · rintro rfl; exact List.eq_nil_of_length_eq_zero (by simpa using this.symm)
  · rintro rfl; exact List.eq_nil_of_length_eq_zero (by simpa using this)
theorem RVs.ints : ∀ {is : List Int} {vs : List V}, RVs K f H (is.map M.int) vs → vs = is.map V.int
  | [], _, h => h
  | _ :: _, _, ⟨v, r, e, h, t⟩ => by subst e; cases h; simp [RVs.ints t]
theorem RVs.of_ints : ∀ (is : List Int), RVs K f H (is.map M.int) (is.map V.int)
  | [] => rfl
  | _ :: r => ⟨_, _, rfl, rfl, RVs.of_ints r⟩
end

/-! ### objects, heaps, frames -/
def keyM : Key → M
  | .inl i => .int i
  | .inr x => .str x
def RKV (K : PySem.W.Frag) (f : List Addr) (H : Hp) : List (M × M) → List (Key × V) → Prop
  | [], ks => ks = []
  | p :: r, ks => ∃ k v l, ks = (k, v) :: l ∧ p.1 = keyM k ∧ RV K f H p.2 v ∧ RKV K f H r l
theorem RKV.mono {K : PySem.W.Frag} {f f' : List Addr} {H H' : Hp} : ∀ {ps : List (M × M)} {ks : List (Key × V)}, RKV K f H ps ks → f <+: f' → Ext H H' → RKV K f' H' ps ks
  | [], _, h, _, _ => h
  | _ :: _, _, ⟨k, v, l, e, h1, h2, h3⟩, p, x => ⟨k, v, l, e, h1, h2.mono p x, RKV.mono h3 p x⟩
def RO (K : PySem.W.Frag) (f : List Addr) (H : Hp) : O → Addr → Prop
  | .lst xs, a => ∃ vs, H a = some (.lst vs) ∧ RVs K f H xs vs
  | .rol xs, a => ∃ o vs, H a = some (.frz o (.lst vs)) ∧ RVs K f H xs vs
  | .dct kvs, a => ∃ ks, H a = some (.dK ks) ∧ RKV K f H kvs ks
  | .ins C ks ms, a => ∃ dx vs, H a = some (.ins (He.ga K C) dx (ks.zip vs)) ∧ ks.length = vs.length ∧ RVs K f H ms vs
  | .tab P q, a => a = P ∧ LamX.TabS H P q
theorem tab_mono {H H' : Hp} {P : Addr} {q : Str} (t : LamX.TabS H P q) (x : Ext H H') (e : H' P = H P) : LamX.TabS H' P q := by
  obtain ⟨ps, h1, h2, h3⟩ := t
  refine ⟨ps, e.trans h1, h2, fun pos cv hc => ?_⟩
  obtain ⟨c, e1, e2⟩ := h3 pos cv hc
  exact ⟨c, e1, x _ _ e2 trivial⟩
theorem RO.some {K : PySem.W.Frag} {f : List Addr} {H : Hp} {o : O} {a : Addr} (h : RO K f H o a) : ∃ u, H a = some u := by
  cases o with
  | lst xs => obtain ⟨vs, e, _⟩ := h; exact ⟨_, e⟩
  | rol xs => obtain ⟨o, vs, e, _⟩ := h; exact ⟨_, e⟩
  | dct _ => obtain ⟨ks, e, _⟩ := h; exact ⟨_, e⟩
  | ins C ks ms => obtain ⟨dx, vs, e, _⟩ := h; exact ⟨_, e⟩
  | tab P q => obtain ⟨rfl, ps, e, _⟩ := h; exact ⟨_, e⟩
structure RH (K : PySem.W.Frag) (f : List Addr) (mh : MH) (H : Hp) : Prop where
  len : f.length = mh.length
  nd : f.Nodup
  ob : ∀ (n : Nat) o a, mh[n]? = some o → f[n]? = some a → RO K f H o a
section
variable {K : PySem.W.Frag} {f : List Addr} {H H' : Hp} {mh : MH}
theorem RH.at (r : RH K f mh H) {n : Nat} {o : O} (h : mh[n]? = some o) : ∃ a, f[n]? = some a ∧ RO K f H o a := by
  have hn : n < mh.length := (List.getElem?_eq_some_iff.mp h).1
  refine ⟨f[n]'(by have := r.len; omega), by simp, r.ob n o _ h (by simp)⟩
theorem RH.inj (r : RH K f mh H) {n k : Nat} {a : Addr} (h : f[n]? = some a) (g : f[k]? = some a) : n = k := by
  obtain ⟨h1, e1⟩ := List.getElem?_eq_some_iff.mp h
  obtain ⟨h2, e2⟩ := List.getElem?_eq_some_iff.mp g
  exact (List.getElem_inj r.nd).mp (e1.trans e2.symm)
/-- a part of the heap that the small heap does not stand on -/
theorem RH.off (r : RH K f mh H) (x : Ext H H') (k : ∀ (n : Nat) a, f[n]? = some a → H' a = H a) : RH K f mh H' where
  len := r.len
  nd := r.nd
  ob := fun n o a h g => by
    have q := r.ob n o a h g
    have e := k n a g
    cases o with
    | lst xs => obtain ⟨vs, e1, rv⟩ := q; exact ⟨vs, e.trans e1, rv.mono (List.prefix_refl _) x⟩
    | rol xs => obtain ⟨o, vs, e1, rv⟩ := q; exact ⟨o, vs, e.trans e1, rv.mono (List.prefix_refl _) x⟩
    | dct _ => obtain ⟨ks, e1, rv⟩ := q; exact ⟨ks, e.trans e1, rv.mono (List.prefix_refl _) x⟩
    | ins C ks ms => obtain ⟨dx, vs, e1, l, rv⟩ := q; exact ⟨dx, vs, e.trans e1, l, rv.mono (List.prefix_refl _) x⟩
    | tab P q' => obtain ⟨rfl, t⟩ := q; exact ⟨rfl, tab_mono t x e⟩
theorem RH.new {p : Addr} {o : HO} (r : RH K f mh H) (h : H p = none) : RH K f mh (upd H p o) :=
  r.off (Ext.new h) fun n a g => by
    obtain ⟨hn, e⟩ := List.getElem?_eq_some_iff.mp g
    obtain ⟨u, hu⟩ := (r.ob n (mh[n]'(by have := r.len; omega)) a (by simp) g).some
    exact upd_ne (ne_of_none hu h)
theorem RH.alloc {p : Addr} {o : O} {u : HO} (r : RH K f mh H) (h : H p = none) (q : RO K (f ++ [p]) (upd H p u) o p) : RH K (f ++ [p]) (mh ++ [o]) (upd H p u) where
  len := by simp [r.len]
  nd := by
    rw [List.nodup_append]
    refine ⟨r.nd, by simp, fun a ha b hb => ?_⟩
    have : b = p := by simpa using hb
    subst this
    rintro rfl
    obtain ⟨n, hn, e⟩ := List.getElem_of_mem ha
    obtain ⟨w, hw⟩ := (r.ob n (mh[n]'(by have := r.len; omega)) a (by simp) (by simp [hn, e])).some
    rw [h] at hw; cases hw
  ob := fun n o' a h1 h2 => by
    have l := r.len
    by_cases hn : n < f.length
    · rw [List.getElem?_append_left hn] at h2
      rw [List.getElem?_append_left (by omega)] at h1
      have q := (r.new (p := p) (o := u) h).ob n o' a h1 h2
      have pf : f <+: f ++ [p] := List.prefix_append _ _
      cases o' with
      | lst xs => obtain ⟨vs, e1, rv⟩ := q; exact ⟨vs, e1, rv.mono pf (Ext.refl _)⟩
      | rol xs => obtain ⟨o, vs, e1, rv⟩ := q; exact ⟨o, vs, e1, rv.mono pf (Ext.refl _)⟩
      | dct _ => obtain ⟨ks, e1, rv⟩ := q; exact ⟨ks, e1, rv.mono pf (Ext.refl _)⟩
      | ins C ks ms => obtain ⟨dx, vs, e1, l, rv⟩ := q; exact ⟨dx, vs, e1, l, rv.mono pf (Ext.refl _)⟩
      | tab P q' => exact q
    · have e : n = f.length := by
        have := (List.getElem?_eq_some_iff.mp h2).1
        simp at this; omega
      subst e
      rw [List.getElem?_append_right (Nat.le_refl _)] at h2
      rw [l, List.getElem?_append_right (Nat.le_refl _)] at h1
      simp at h1 h2
      subst h1 h2
      exact q
theorem RH.put {a : Addr} {n : Nat} {o : O} {u w : HO} (r : RH K f mh H) (hn : f[n]? = some a) (h : H a = some w) (ns : ¬ Stb w) (q : RO K f (upd H a u) o a) : RH K f (mh.set n o) (upd H a u) where
  len := by simp [r.len]
  nd := r.nd
  ob := fun k o' b h1 h2 => by
    have x : Ext H (upd H a u) := Ext.put h ns
    by_cases e : k = n
    · subst e
      rw [hn] at h2; cases h2
      have hk : k < mh.length := by
        have := (List.getElem?_eq_some_iff.mp hn).1
        have := r.len; omega
      rw [List.getElem?_set_self hk] at h1
      cases h1
      exact q
    · rw [List.getElem?_set_ne (Ne.symm e)] at h1
      have q := r.ob k o' b h1 h2
      have ne : b ≠ a := fun z => e (r.inj h2 (z ▸ hn))
      have pf : f <+: f := List.prefix_refl _
      cases o' with
      | lst xs => obtain ⟨vs, e1, rv⟩ := q; exact ⟨vs, (upd_ne ne).trans e1, rv.mono pf x⟩
      | rol xs => obtain ⟨o, vs, e1, rv⟩ := q; exact ⟨o, vs, (upd_ne ne).trans e1, rv.mono pf x⟩
      | dct _ => obtain ⟨ks, e1, rv⟩ := q; exact ⟨ks, (upd_ne ne).trans e1, rv.mono pf x⟩
      | ins C ks ms => obtain ⟨dx, vs, e1, l, rv⟩ := q; exact ⟨dx, vs, (upd_ne ne).trans e1, l, rv.mono pf x⟩
      | tab P q' => obtain ⟨rfl, t⟩ := q; exact ⟨rfl, tab_mono t x (upd_ne ne)⟩
end
structure RS (K : PySem.W.Frag) (f : List Addr) (H : Hp) (sm : MS) (σ : L2.St) : Prop where
  len : sm.length = σ.length
  at_ : ∀ (i : Nat) m, sm[i]? = some (some m) → ∃ v, σ[i]? = some (some v) ∧ RV K f H m v
section
variable {K : PySem.W.Frag} {f f' : List Addr} {H H' : Hp} {sm : MS} {σ : L2.St}
theorem RS.mono (r : RS K f H sm σ) (p : f <+: f') (x : Ext H H') : RS K f' H' sm σ :=
  ⟨r.len, fun i m e => let ⟨v, h1, h2⟩ := r.at_ i m e; ⟨v, h1, h2.mono p x⟩⟩
theorem RS.set (r : RS K f H sm σ) {i : Nat} {m : M} {v : V} (h : RV K f H m v) : RS K f H (sm.set i (some m)) (σ.set i (some v)) :=
  ⟨by simp [r.len], fun j m' e => by
    by_cases hj : j = i
    · subst hj
      have hl : j < sm.length := by
        have := (List.getElem?_eq_some_iff.mp e).1; simpa using this
      rw [List.getElem?_set_self hl] at e
      have e' : m = m' := by injection e with e; injection e
      subst e'
      exact ⟨v, by rw [List.getElem?_set_self (by rw [← r.len]; exact hl)], h⟩
    · rw [List.getElem?_set_ne (Ne.symm hj)] at e
      obtain ⟨w, h1, h2⟩ := r.at_ j m' e
      exact ⟨w, by rw [List.getElem?_set_ne (Ne.symm hj)]; exact h1, h2⟩⟩
theorem RS.unset (r : RS K f H sm σ) {i : Nat} : RS K f H (sm.set i none) (σ.set i none) :=
  ⟨by simp [r.len], fun j m' e => by
    by_cases hj : j = i
    · subst hj
      have hl : j < sm.length := by
        have := (List.getElem?_eq_some_iff.mp e).1; simpa using this
      rw [List.getElem?_set_self hl] at e
      cases e
    · rw [List.getElem?_set_ne (Ne.symm hj)] at e
      obtain ⟨w, h1, h2⟩ := r.at_ j m' e
      exact ⟨w, by rw [List.getElem?_set_ne (Ne.symm hj)]; exact h1, h2⟩⟩
end
end Mn
end
section
set_option maxHeartbeats 2000000
namespace Mn
open PySem PySem.Spec PyProof.Rows L2

abbrev KM := M → MH → Prop
abbrev MTE := MS → MH → KM → KM → Prop
abbrev MTA := MS → MH → (List M → MH → Prop) → KM → Prop
abbrev MTT := MS → MH → (Bool → MH → Prop) → KM → Prop
structure MD where
  nx : MS → MH → Prop
  rt : KM
  bk : MS → MH → Prop
  ct : MS → MH → Prop
  xc : M → MS → MH → Prop
abbrev MTS := MD → MS → MH → Prop
/-- a promise: arguments, heap, the wanted end, the wanted exception -/
abbrev MSp := List M → MH → KM → KM → Prop

section
variable (K : PySem.W.Frag)
def QL (f : List Addr) (H : Hp) (Q : KM) (v : V) (H' : Hp) : Prop := ∃ f' mh' m, f <+: f' ∧ Ext H H' ∧ RH K f' mh' H' ∧ RV K f' H' m v ∧ Q m mh'
def QLs (f : List Addr) (H : Hp) (Q : List M → MH → Prop) (vs : List V) (H' : Hp) : Prop := ∃ f' mh' ms, f <+: f' ∧ Ext H H' ∧ RH K f' mh' H' ∧ RVs K f' H' ms vs ∧ Q ms mh'
def QLb (f : List Addr) (H : Hp) (Q : Bool → MH → Prop) (b : Bool) (H' : Hp) : Prop := ∃ f' mh', f <+: f' ∧ Ext H H' ∧ RH K f' mh' H' ∧ Q b mh'
/-- an exception in the air: its class, the dict of its fields -/
def XL (f : List Addr) (H : Hp) (E : KM) (cls : Value) (d : Option Addr) (H' : Hp) : Prop :=
  ∃ f' mh' C ks ms us dx, f <+: f' ∧ Ext H H' ∧ RH K f' mh' H' ∧ cls = .ref (He.ga K C) ∧ d = some dx ∧ H' dx = some (.xd (ks.zip us)) ∧ us.length = ks.length ∧ RVs K f' H' ms us ∧ E (.exc C ks ms) mh'
def SL (f : List Addr) (H : Hp) (P : MS → MH → Prop) (σ' : L2.St) (H' : Hp) : Prop := ∃ f' mh' sm', f <+: f' ∧ Ext H H' ∧ RH K f' mh' H' ∧ RS K f' H' sm' σ' ∧ P sm' mh'
def XS (f : List Addr) (H : Hp) (E : M → MS → MH → Prop) (cls : Value) (d : Option Addr) (σ' : L2.St) (H' : Hp) : Prop :=
  ∃ f' mh' sm' C ks ms us dx, f <+: f' ∧ Ext H H' ∧ RH K f' mh' H' ∧ RS K f' H' sm' σ' ∧ cls = .ref (He.ga K C) ∧ d = some dx ∧ H' dx = some (.xd (ks.zip us)) ∧ us.length = ks.length ∧ RVs K f' H' ms us ∧ E (.exc C ks ms) sm' mh'
end
section
variable {K : PySem.W.Frag} {f f1 : List Addr} {H H1 H2 : Hp} {cls : Value} {d : Option Addr} {σ' : L2.St}
theorem QL.back {Q : KM} {v : V} (p : f <+: f1) (x : Ext H H1) (h : QL K f1 H1 Q v H2) : QL K f H Q v H2 := by
  obtain ⟨f', mh', m, p', x', r⟩ := h
  exact ⟨f', mh', m, p.trans p', x.trans x', r⟩
theorem QLs.back {Q : List M → MH → Prop} {v : List V} (p : f <+: f1) (x : Ext H H1) (h : QLs K f1 H1 Q v H2) : QLs K f H Q v H2 := by
  obtain ⟨f', mh', m, p', x', r⟩ := h
  exact ⟨f', mh', m, p.trans p', x.trans x', r⟩
theorem QLb.back {Q : Bool → MH → Prop} {b : Bool} (p : f <+: f1) (x : Ext H H1) (h : QLb K f1 H1 Q b H2) : QLb K f H Q b H2 := by
  obtain ⟨f', mh', p', x', r⟩ := h
  exact ⟨f', mh', p.trans p', x.trans x', r⟩
theorem XL.back {E : KM} (p : f <+: f1) (x : Ext H H1) (h : XL K f1 H1 E cls d H2) : XL K f H E cls d H2 := by
  obtain ⟨f', mh', C, ks, ms, us, dx, p', x', r⟩ := h
  exact ⟨f', mh', C, ks, ms, us, dx, p.trans p', x.trans x', r⟩
theorem SL.back {P : MS → MH → Prop} (p : f <+: f1) (x : Ext H H1) (h : SL K f1 H1 P σ' H2) : SL K f H P σ' H2 := by
  obtain ⟨f', mh', m, p', x', r⟩ := h
  exact ⟨f', mh', m, p.trans p', x.trans x', r⟩
theorem XS.back {E : M → MS → MH → Prop} (p : f <+: f1) (x : Ext H H1) (h : XS K f1 H1 E cls d σ' H2) : XS K f H E cls d σ' H2 := by
  obtain ⟨f', mh', sm', C, ks, ms, us, dx, p', x', r⟩ := h
  exact ⟨f', mh', sm', C, ks, ms, us, dx, p.trans p', x.trans x', r⟩
end

/-- where one stands within an expression: the small state stands for the layer's; exceptions go to W -/
structure At (K : PySem.W.Frag) (W : WX) (f : List Addr) (sm : MS) (mh : MH) (σ : L2.St) (H : Hp) (E : KM) : Prop where
  h : RH K f mh H
  s : RS K f H sm σ
  e : ∀ cls d H', XL K f H E cls d H' → W cls d σ H'
theorem At.step {K : PySem.W.Frag} {W : WX} {f f1 : List Addr} {sm : MS} {mh mh1 : MH} {σ : L2.St} {H H1 : Hp} {E : KM} (a : At K W f sm mh σ H E) (p : f <+: f1) (x : Ext H H1) (r : RH K f1 mh1 H1) : At K W f1 sm mh1 σ H1 E :=
  ⟨r, a.s.mono p x, fun cls d H' q => a.e cls d H' (q.back p x)⟩

def liftE (K : PySem.W.Frag) (W : WX) (w : MTE) : TE := fun σ H Q => ∃ f sm mh Q' E, At K W f sm mh σ H E ∧ w sm mh Q' E ∧ ∀ v H', QL K f H Q' v H' → Q v H'
def liftA (K : PySem.W.Frag) (W : WX) (w : MTA) : TA := fun σ H Q => ∃ f sm mh Q' E, At K W f sm mh σ H E ∧ w sm mh Q' E ∧ ∀ v H', QLs K f H Q' v H' → Q v H'
def liftT (K : PySem.W.Frag) (W : WX) (w : MTT) : TT := fun σ H Q => ∃ f sm mh Q' E, At K W f sm mh σ H E ∧ w sm mh Q' E ∧ ∀ b H', QLb K f H Q' b H' → Q b H'
/-- the ends of a statement -/
structure AtS (K : PySem.W.Frag) (W : WX) (D : Ends) (f : List Addr) (sm : MS) (mh : MH) (σ : L2.St) (H : Hp) (D' : MD) : Prop where
  h : RH K f mh H
  s : RS K f H sm σ
  nx : ∀ σ' H', SL K f H D'.nx σ' H' → D.nx σ' H'
  rt : ∀ v H', QL K f H D'.rt v H' → D.rt v H'
  bk : ∀ σ' H', SL K f H D'.bk σ' H' → D.bk σ' H'
  ct : ∀ σ' H', SL K f H D'.ct σ' H' → D.ct σ' H'
  xc : ∀ cls d σ' H', XS K f H D'.xc cls d σ' H' → W cls d σ' H'
theorem AtS.step {K : PySem.W.Frag} {W : WX} {D : Ends} {f f1 : List Addr} {sm sm1 : MS} {mh mh1 : MH} {σ σ1 : L2.St} {H H1 : Hp} {D' : MD} (a : AtS K W D f sm mh σ H D') (p : f <+: f1) (x : Ext H H1) (r : RH K f1 mh1 H1) (s : RS K f1 H1 sm1 σ1) :
    AtS K W D f1 sm1 mh1 σ1 H1 D' :=
  ⟨r, s, fun _ _ q => a.nx _ _ (q.back p x), fun _ _ q => a.rt _ _ (q.back p x), fun _ _ q => a.bk _ _ (q.back p x), fun _ _ q => a.ct _ _ (q.back p x), fun _ _ _ _ q => a.xc _ _ _ _ (q.back p x)⟩
/-- an expression within a statement -/
theorem AtS.at {K : PySem.W.Frag} {W : WX} {D : Ends} {f : List Addr} {sm : MS} {mh : MH} {σ : L2.St} {H : Hp} {D' : MD} (a : AtS K W D f sm mh σ H D') : At K W f sm mh σ H (fun e h => D'.xc e sm h) :=
  ⟨a.h, a.s, fun cls d H' ⟨f', mh', C, ks, ms, us, dx, p, x, r, e1, e2, e3, l, rv, q⟩ => a.xc _ _ _ _ ⟨f', mh', sm, C, ks, ms, us, dx, p, x, r, a.s.mono p x, e1, e2, e3, l, rv, q⟩⟩
def liftS (K : PySem.W.Frag) (W : WX) (w : MTS) : TS := fun D σ H => ∃ f sm mh D', AtS K W D f sm mh σ H D' ∧ w D' sm mh

/-! ### the judgements -/
abbrev EOk (X : Cx) (W : WX) (e : Expr) (w : MTE) : Prop := PE X e (liftE X.K W w)
abbrev TOk (X : Cx) (W : WX) (e : Expr) (w : MTT) : Prop := PT X e (liftT X.K W w)
abbrev AOk (X : Cx) (W : WX) (es : List Expr) (w : MTA) : Prop := PA X es (liftA X.K W w)
abbrev SOk (X : Cx) (W : WX) (s : Stmt) (w : MTS) : Prop := PS X s (liftS X.K W w)
abbrev SsOk (X : Cx) (W : WX) (s : List Stmt) (w : MTS) : Prop := PSs X s (liftS X.K W w)

theorem PE.mono {X : Cx} {e : Expr} {t u : TE} (h : PE X e t) (i : ∀ σ H Q, u σ H Q → t σ H Q) : PE X e u := ⟨fun pins s σ H Q I q => h.run pins s σ H Q I (i σ H Q q)⟩
theorem PT.mono {X : Cx} {e : Expr} {t u : TT} (h : PT X e t) (i : ∀ σ H Q, u σ H Q → t σ H Q) : PT X e u := ⟨fun pins s σ H Q I q => h.run pins s σ H Q I (i σ H Q q)⟩
theorem PA.mono {X : Cx} {e : List Expr} {t u : TA} (h : PA X e t) (i : ∀ σ H Q, u σ H Q → t σ H Q) : PA X e u := ⟨fun pos pins s σ H Q I q => h.run pos pins s σ H Q I (i σ H Q q)⟩
theorem PS.mono {X : Cx} {e : Stmt} {t u : TS} (h : PS X e t) (i : ∀ D σ H, u D σ H → t D σ H) : PS X e u := ⟨fun pins s σ H D I q => h.run pins s σ H D I (i D σ H q)⟩
theorem PSs.mono {X : Cx} {e : List Stmt} {t u : TS} (h : PSs X e t) (i : ∀ D σ H, u D σ H → t D σ H) : PSs X e u := ⟨fun pins s σ H D I q => h.run pins s σ H D I (i D σ H q)⟩

/-! ### one part, then the rest -/
section
variable {K : PySem.W.Frag} {W : WX} {f : List Addr} {sm : MS} {mh : MH} {σ : L2.St} {H : Hp} {E : KM}
/-- behind a part: the value, where one stands -/
theorem At.go (a : At K W f sm mh σ H E) {w : MTE} {Q' : KM} {Q : VK} (h : w sm mh Q' E)
    (k : ∀ f1 mh1 H1 m v, f <+: f1 → Ext H H1 → At K W f1 sm mh1 σ H1 E → RV K f1 H1 m v → Q' m mh1 → Q v H1) : liftE K W w σ H Q :=
  ⟨f, sm, mh, Q', E, a, h, fun v H1 ⟨f1, mh1, m, p, x, r, rv, q⟩ => k f1 mh1 H1 m v p x (a.step p x r) rv q⟩
theorem At.goA (a : At K W f sm mh σ H E) {w : MTA} {Q' : List M → MH → Prop} {Q : List V → Hp → Prop} (h : w sm mh Q' E)
    (k : ∀ f1 mh1 H1 m v, f <+: f1 → Ext H H1 → At K W f1 sm mh1 σ H1 E → RVs K f1 H1 m v → Q' m mh1 → Q v H1) : liftA K W w σ H Q :=
  ⟨f, sm, mh, Q', E, a, h, fun v H1 ⟨f1, mh1, m, p, x, r, rv, q⟩ => k f1 mh1 H1 m v p x (a.step p x r) rv q⟩
theorem At.goT (a : At K W f sm mh σ H E) {w : MTT} {Q' : Bool → MH → Prop} {Q : Bool → Hp → Prop} (h : w sm mh Q' E)
    (k : ∀ f1 mh1 H1 b, f <+: f1 → Ext H H1 → At K W f1 sm mh1 σ H1 E → Q' b mh1 → Q b H1) : liftT K W w σ H Q :=
  ⟨f, sm, mh, Q', E, a, h, fun v H1 ⟨f1, mh1, p, x, r, q⟩ => k f1 mh1 H1 v p x (a.step p x r) q⟩
end

/-! ### operators by values -/
abbrev MR2 := M → M → MH → KM → Prop
abbrev MR1 := M → MH → KM → Prop
/-- r, by the layer's values, does what m does -/
def L2R (K : PySem.W.Frag) (r : R2) (m : MR2) : Prop := ∀ (f : List Addr) (mh : MH) (H : Hp) (x y : M) (xv yv : V) (Q' : KM) (Q : VK), RH K f mh H → RV K f H x xv → RV K f H y yv → m x y mh Q' → (∀ v H', QL K f H Q' v H' → Q v H') → r xv yv H Q
def L1R (K : PySem.W.Frag) (r : V → Hp → VK → Prop) (m : MR1) : Prop := ∀ (f : List Addr) (mh : MH) (H : Hp) (x : M) (xv : V) (Q' : KM) (Q : VK), RH K f mh H → RV K f H x xv → m x mh Q' → (∀ v H', QL K f H Q' v H' → Q v H') → r xv H Q
def LsR (K : PySem.W.Frag) (r : List V → Hp → VK → Prop) (m : List M → MH → KM → Prop) : Prop := ∀ (f : List Addr) (mh : MH) (H : Hp) (x : List M) (xv : List V) (Q' : KM) (Q : VK), RH K f mh H → RVs K f H x xv → m x mh Q' → (∀ v H', QL K f H Q' v H' → Q v H') → r xv H Q
theorem L2R.or {K : PySem.W.Frag} {r r' : R2} {m m' : MR2} (h : L2R K r m) (h' : L2R K r' m') : L2R K (fun x y H Q => r x y H Q ∨ r' x y H Q) (fun x y H Q => m x y H Q ∨ m' x y H Q) :=
  fun f mh H x y xv yv Q' Q a b c q k => q.elim (fun q => .inl (h f mh H x y xv yv Q' Q a b c q k)) (fun q => .inr (h' f mh H x y xv yv Q' Q a b c q k))
/-- a plain value out -/
theorem QL.same {K : PySem.W.Frag} {f : List Addr} {mh : MH} {H : Hp} {Q : KM} {m : M} {v : V} (r : RH K f mh H) (rv : RV K f H m v) (q : Q m mh) : QL K f H Q v H := ⟨f, mh, m, List.prefix_refl _, Ext.refl _, r, rv, q⟩

/-! ### expressions -/
def wVar (i : Nat) : MTE := fun sm h Q _ => ∃ m, sm[i]? = some (some m) ∧ Q m h
def wCon (m : M) : MTE := fun _ h Q _ => Q m h
def wOp (r : MR2) (a b : MTE) : MTE := fun sm h Q E => a sm h (fun x h1 => b sm h1 (fun y h2 => r x y h2 Q) E) E
def wUn (r : MR1) (a : MTE) : MTE := fun sm h Q E => a sm h (fun x h1 => r x h1 Q) E
section
variable {X : Cx} {W : WX} {a b c : Expr} {wa wb wc : MTE} {pos : Pos}
theorem m_var {i : Nat} {x : Str} (hN : X.N[i]? = some x) (hv : Vis X.env.scope x) (hd : (x == ("__debug__" : Str)) = false := by decide) (hcd : (x == ("__classdict__" : Str)) = false := by decide) : EOk X W (.Name x pos) (wVar i) :=
  PE.mono (pe_var hN hv hd hcd) fun σ H Q ⟨f, sm, mh, Q', E, a, ⟨m, h1, h2⟩, k⟩ =>
    let ⟨v, e, rv⟩ := a.s.at_ i m h1
    ⟨v, e, k v H (QL.same a.h rv h2)⟩
theorem m_con {m : M} {v : V} {e : Expr} (h : PE X e (tC v)) (r : ∀ f H, RV X.K f H m v) : EOk X W e (wCon m) :=
  PE.mono h fun σ H Q ⟨f, sm, mh, Q', E, a, q, k⟩ => k v H (QL.same a.h (r f H) q)
theorem m_op {op : Operator} {r : R2} {m : MR2} (ho : OpR X (binaryOp op) r) (l : L2R X.K r m) (ha : EOk X W a wa) (hb : EOk X W b wb) : EOk X W (.BinOp a op b pos) (wOp m wa wb) :=
  PE.mono (pe_op ho ha hb) fun σ H Q ⟨f, sm, mh, Q', E, a, q, k⟩ =>
    a.go q fun f1 mh1 H1 m1 v1 p1 x1 a1 r1 q1 => a1.go q1 fun f2 mh2 H2 m2 v2 p2 x2 a2 r2 q2 =>
      l f2 mh2 H2 m1 m2 v1 v2 Q' Q a2.h (r1.mono p2 x2) r2 q2 fun v H' z => k v H' ((z.back p2 x2).back p1 x1)
theorem m_un {op : UnaryOp} {r : V → Hp → VK → Prop} {m : MR1} (ho : UnR X (unaryOp op) r) (l : L1R X.K r m) (ha : EOk X W a wa) : EOk X W (.UnaryOp op a pos) (wUn m wa) :=
  PE.mono (pe_un ho ha) fun σ H Q ⟨f, sm, mh, Q', E, a, q, k⟩ =>
    a.go q fun f1 mh1 H1 m1 v1 p1 x1 a1 r1 q1 => l f1 mh1 H1 m1 v1 Q' Q a1.h r1 q1 fun v H' z => k v H' (z.back p1 x1)
theorem m_cmp {op : CmpOp} {r : R2} {m : MR2} (ho : OpR X (compareOp op) r) (l : L2R X.K r m) (ha : EOk X W a wa) (hb : EOk X W b wb) (hm : behindInMarks op b = false) : EOk X W (.Compare a [op] [b] pos) (wOp m wa wb) :=
  PE.mono (pe_cmpR ho ha hb hm) fun σ H Q ⟨f, sm, mh, Q', E, a, q, k⟩ =>
    a.go q fun f1 mh1 H1 m1 v1 p1 x1 a1 r1 q1 => a1.go q1 fun f2 mh2 H2 m2 v2 p2 x2 a2 r2 q2 =>
      l f2 mh2 H2 m1 m2 v1 v2 Q' Q a2.h (r1.mono p2 x2) r2 q2 fun v H' z => k v H' ((z.back p2 x2).back p1 x1)
end
end Mn
end
section
set_option maxHeartbeats 4000000
namespace L2
open PySem PySem.Spec PyProof.Rows
theorem tuple_mulSame (l : Addr) (items : Array Value) (n : Nat) (dd : Option Addr) (sl : Array (Option Value)) (x : Int) (u : Tok) (c0 : (decide (x < -(2 ^ 63)) || decide (x ≥ 2 ^ 63)) = false) (c1 : (items.isEmpty || x == 1) = true) :
    Meets (Builtin.«tuple.__mul__» ⟨[.ref l, .int x u], []⟩) (fun _ R s => s.heap.get? l = some { cls := .type "tuple", dict := dd, data := .seq items n, slots := sl } ∧
      R (.ok (.ret (Value.ref l))) s) :=
  .of_wp fun prog w A R s h => by
    obtain ⟨hp, g, d, tk, os⟩ := s
    obtain ⟨hl, h⟩ := h
    have f1 := AutoSeq1.idx_int
    wp_walk using wpAny_loadPart' hl
    repeat (first
      | (refine wpAny_ite_false (decide_eq_false (by rw [c0]; exact Bool.false_ne_true)) ?_; wp_walk using wpAny_loadPart' hl)
      | (refine wpAny_ite_true (decide_eq_true c1) ?_; wp_walk using wpAny_loadPart' hl))
    exact ⟨_, rfl, h⟩
theorem tuple_mulNone (l : Addr) (items : Array Value) (n : Nat) (dd : Option Addr) (sl : Array (Option Value)) (x : Int) (u : Tok) (c0 : (decide (x < -(2 ^ 63)) || decide (x ≥ 2 ^ 63)) = false) (c1 : (items.isEmpty || x == 1) = false) (c2 : (decide (x ≤ 0) || items.isEmpty) = true) :
    Meets (Builtin.«tuple.__mul__» ⟨[.ref l, .int x u], []⟩) (fun _ R s => s.heap.get? l = some { cls := .type "tuple", dict := dd, data := .seq items n, slots := sl } ∧
      R (.ok (.ret (Value.ref s.heap.objs.size))) { s with heap := s.heap.push { cls := Value.type "tuple", data := Data.seq #[] }, toks := s.toks }) :=
  .of_wp fun prog w A R s h => by
    obtain ⟨hp, g, d, tk, os⟩ := s
    obtain ⟨hl, h⟩ := h
    have f1 := AutoSeq1.idx_int
    wp_walk using wpAny_loadPart' hl
    repeat (first
      | (refine wpAny_ite_false (decide_eq_false (by rw [c0]; exact Bool.false_ne_true)) ?_; wp_walk using wpAny_loadPart' hl)
      | (refine wpAny_ite_false (decide_eq_false (by rw [c1]; exact Bool.false_ne_true)) ?_; wp_walk using wpAny_loadPart' hl)
      | (refine wpAny_ite_true (decide_eq_true c2) ?_; wp_walk using wpAny_loadPart' hl))
    exact ⟨_, rfl, h⟩
def rRepT2 (K : PySem.W.Frag) : R2 := fun x y H Q => ∃ l k xs, x = .ref l ∧ y = .int k ∧ SqT K H l xs ∧ -(2 ^ 63) ≤ k ∧ k < 2 ^ 63 ∧ (xs = [] ∨ k < 2) ∧ ((xs = [] ∨ k = 1) → Q (.ref l) H) ∧ (xs ≠ [] → k ≤ 0 → ∀ p, H p = none → Q (.ref p) (upd H p (.tup [])))
theorem op_repT2 {X : Cx} : OpR X (binaryOp .Mult) (rRepT2 X.K) := by
  intro pins s σ H x y v u Q I rx ry h
  obtain ⟨l, k, xs, rfl, rfl, hT, b1, b2, hk, q1, q2⟩ := h
  cases rx
  obtain ⟨t, rfl⟩ := ry
  obtain ⟨its, r, ⟨⟨cls, dd, data, sl⟩, ho, hc, n, hd⟩, hs⟩ := I.tuple hT
  simp only at hc hd
  subst hc hd
  have hle : its.length = xs.length := r.length.symm
  have c0 : (decide (k < -(2 ^ 63)) || decide (k ≥ 2 ^ 63)) = false := by
    rw [decide_eq_false (by omega), decide_eq_false (by omega)] <;> rfl
  by_cases hw : xs = [] ∨ k = 1
  · have c1 : (its.toArray.isEmpty || k == 1) = true := by
      rcases hw with e | e
      · have : its = [] := List.eq_nil_of_length_eq_zero (by rw [hle, e]; rfl)
        subst this; rfl
      · subst e; simp
    refine wpAny_binaryOp_repeat_ref (T := "tuple") (U := "int") (by decide) ⟨_, ho, rfl⟩ (fun s' => typeIs_int s' k t) noFill_tuple_mul F.fills_int_mul F.slot_int_rmul repeat_tuple F.slot_int_index.lookup
      (call_meets F.slot_int_rmul (typeIs_int s k t) F.entry_int_rmul (F.args_int_rmul_2 _ _) (int_rmul_tuple k t l its.toArray n dd sl)
        ⟨ho, rfl, ⟨_, ho, rfl⟩, call_meets F.slot_tuple_mul ⟨_, ho, rfl⟩ F.entry_tuple_mul (F.args_tuple_mul_2 _ _) (tuple_mulSame l its.toArray n dd sl k t c0 c1) ⟨ho, ?_⟩⟩)
    exact ⟨.ref l, H, I, rfl, q1 hw⟩
  · have hne : xs ≠ [] := fun e => hw (.inl e)
    have hn : its ≠ [] := fun e => hne (by
      rw [e] at hle
      exact List.eq_nil_of_length_eq_zero hle.symm)
    have hi : its.toArray.isEmpty = false := by
      cases its with
      | nil => exact absurd rfl hn
      | cons a b => rfl
    have h1 : k ≠ 1 := fun e => hw (.inr e)
    have h0 : k ≤ 0 := by
      rcases hk with e | e
      · exact absurd e hne
      · omega
    have c1 : (its.toArray.isEmpty || k == 1) = false := by
      rw [hi, Bool.false_or]
      exact beq_eq_false_iff_ne.mpr h1
    have c2 : (decide (k ≤ 0) || its.toArray.isEmpty) = true := by
      rw [decide_eq_true h0]; rfl
    refine wpAny_binaryOp_repeat_ref (T := "tuple") (U := "int") (by decide) ⟨_, ho, rfl⟩ (fun s' => typeIs_int s' k t) noFill_tuple_mul F.fills_int_mul F.slot_int_rmul repeat_tuple F.slot_int_index.lookup
      (call_meets F.slot_int_rmul (typeIs_int s k t) F.entry_int_rmul (F.args_int_rmul_2 _ _) (int_rmul_tuple k t l its.toArray n dd sl)
        ⟨ho, rfl, ⟨_, ho, rfl⟩, call_meets F.slot_tuple_mul ⟨_, ho, rfl⟩ F.entry_tuple_mul (F.args_tuple_mul_2 _ _) (tuple_mulNone l its.toArray n dd sl k t c0 c1 c2) ⟨ho, ?_⟩⟩)
    refine ⟨.ref s.heap.objs.size, _, I.laid (t' := s.toks) (o := .tup []) (fun b ob q => Heap.get?_push_of_some _ q) (Nat.le_refl _) ?_, rfl, q2 hne h0 _ (I.hok.fresh (Nat.le_refl _))⟩
    exact ⟨by rw [sizeLine_eq]; exact Nat.zero_le _, [], .nil, IsTup.new _ _⟩
end L2
end
section
set_option maxHeartbeats 2000000
namespace Mn
open PySem PySem.Spec PyProof.Rows L2

/-! ### ints -/
def mI (C : Int → Int → Prop) (g : Int → Int → M) : MR2 := fun x y h Q => match x, y with
  | .int i, .int j => C i j ∧ Q (g i j) h
  | _, _ => False
theorem mI_inv {C : Int → Int → Prop} {g : Int → Int → M} {x y : M} {h : MH} {Q : KM} (q : mI C g x y h Q) : ∃ i j, x = .int i ∧ y = .int j ∧ C i j ∧ Q (g i j) h := by
  cases x <;> cases y <;> first | exact False.elim q | exact ⟨_, _, rfl, rfl, q.1, q.2⟩
theorem l_I {K : PySem.W.Frag} {C C' : Int → Int → Prop} {g : Int → Int → V} {g' : Int → Int → M} (hc : ∀ i j, C' i j → C i j) (hg : ∀ f H i j, RV K f H (g' i j) (g i j)) : L2R K (rI C g) (mI C' g') := by
  intro f mh H x y xv yv Q' Q r rx ry q k
  obtain ⟨i, j, rfl, rfl, c, q⟩ := mI_inv q
  have e1 : xv = .int i := rx
  have e2 : yv = .int j := ry
  subst e1 e2
  exact ⟨i, j, rfl, rfl, hc _ _ c, k _ _ (QL.same r (hg f H i j) q)⟩
theorem l_I0 {K : PySem.W.Frag} {g : Int → Int → V} {g' : Int → Int → M} (hg : ∀ f H i j, RV K f H (g' i j) (g i j)) : L2R K (rI0 g) (mI (fun _ _ => True) g') := by
  intro f mh H x y xv yv Q' Q r rx ry q k
  obtain ⟨i, j, rfl, rfl, c, q⟩ := mI_inv q
  have e1 : xv = .int i := rx
  have e2 : yv = .int j := ry
  subst e1 e2
  exact ⟨i, j, rfl, rfl, k _ _ (QL.same r (hg f H i j) q)⟩

/-- together at most 2^27 bits -/
def BitsOk (i j : Int) : Prop := CMulX i j
def mSub : MR2 := mI (fun _ _ => True) fun i j => .int (i - j)
def mFdiv : MR2 := mI (fun _ j => j ≠ 0 ∧ j.natAbs.log2 < 9000) fun i j => .int (i.fdiv j)
def mMod : MR2 := mI (fun _ j => j ≠ 0) fun i j => .int (i.fmod j)
def PowOk (i j : Int) : Prop := 0 ≤ j ∧ (Builtin.Int.intBits i : Int) * j ≤ 2 ^ 27
def mPow : MR2 := mI PowOk fun i j => .int (i ^ j.toNat)
def mShl : MR2 := mI CShl fun i j => .int (i * 2 ^ j.toNat)
def mShr : MR2 := mI (fun _ j => 0 ≤ j) fun i j => .int (i / 2 ^ j.toNat)
def mAnd : MR2 := mI (fun _ _ => True) fun i j => .int (Builtin.bitAnd i j)
def mLt : MR2 := mI (fun _ _ => True) fun i j => .bl (decide (i < j))
def mLe : MR2 := mI (fun _ _ => True) fun i j => .bl (decide (i ≤ j))
def mGt : MR2 := mI (fun _ _ => True) fun i j => .bl (decide (j < i))
def mGe : MR2 := mI (fun _ _ => True) fun i j => .bl (decide (j ≤ i))
section
variable {X : Cx}
theorem op_fdivA : OpR X (binaryOp .FloorDiv) (rI (fun _ j => j ≠ 0 ∧ j.natAbs.log2 < 9000) fun i j => .int (i.fdiv j)) := opI fun _ _ _ _ _ _ _ hc q => floordiv_int hc.1 q (.inl (PyProof.noPylong_of_log2 hc.2))
theorem iop_fdivA : OpR X (inplaceOp .FloorDiv) (rI (fun _ j => j ≠ 0 ∧ j.natAbs.log2 < 9000) fun i j => .int (i.fdiv j)) := opI fun _ _ _ _ _ _ _ hc q => ifloordiv_int hc.1 q (.inl (PyProof.noPylong_of_log2 hc.2))
theorem op_powA : OpR X (binaryOp .Pow) (rI PowOk fun i j => .int (i ^ j.toNat)) := opI fun _ _ _ _ _ _ _ hc q => pow_int hc.1 hc.2 q
theorem iop_mulX : OpR X (inplaceOp .Mult) (rI CMulX fun i j => .int (i * j)) := opI fun _ _ _ _ _ _ _ hc q => imul_int q hc.ok
theorem l_sub : L2R X.K (rI0 fun i j => .int (i - j)) mSub := l_I0 fun _ _ _ _ => rfl
theorem l_fdiv : L2R X.K (rI (fun _ j => j ≠ 0 ∧ j.natAbs.log2 < 9000) fun i j => .int (i.fdiv j)) mFdiv := l_I (fun _ _ h => h) fun _ _ _ _ => rfl
theorem l_mod : L2R X.K (rI (fun _ j => j ≠ 0) fun i j => .int (i.fmod j)) mMod := l_I (fun _ _ h => h) fun _ _ _ _ => rfl
theorem l_pow : L2R X.K (rI PowOk fun i j => .int (i ^ j.toNat)) mPow := l_I (fun _ _ h => h) fun _ _ _ _ => rfl
theorem l_shl : L2R X.K (rI CShl fun i j => .int (i * 2 ^ j.toNat)) mShl := l_I (fun _ _ h => h) fun _ _ _ _ => rfl
theorem l_shr : L2R X.K (rI (fun _ j => 0 ≤ j) fun i j => .int (i / 2 ^ j.toNat)) mShr := l_I (fun _ _ h => h) fun _ _ _ _ => rfl
theorem l_and : L2R X.K (rI0 fun i j => .int (Builtin.bitAnd i j)) mAnd := l_I0 fun _ _ _ _ => rfl
theorem l_lt : L2R X.K (rI0 fun i j => .bl (decide (i < j))) mLt := l_I0 fun _ _ _ _ => rfl
theorem l_le : L2R X.K (rI0 fun i j => .bl (decide (i ≤ j))) mLe := l_I0 fun _ _ _ _ => rfl
theorem l_gt : L2R X.K (rI0 fun i j => .bl (decide (j < i))) mGt := l_I0 fun _ _ _ _ => rfl
theorem l_ge : L2R X.K (rI0 fun i j => .bl (decide (j ≤ i))) mGe := l_I0 fun _ _ _ _ => rfl
end

/-! ### + and * of ints, lists, tuples, texts -/
def SZ : Nat := 16777216
theorem SZ_eq : sizeLine = SZ := sizeLine_eq
def mAdd : MR2 := fun x y h Q => match x, y with
  | .int i, .int j => Q (.int (i + j)) h
  | .ref n, .ref k => ∃ xs ys, h[n]? = some (.lst xs) ∧ h[k]? = some (.lst ys) ∧ xs.length + ys.length ≤ SZ ∧ Q (.ref h.length) (h ++ [.lst (xs ++ ys)])
  | .tup xs, .tup ys => xs.length + ys.length ≤ SZ ∧ Q (.tup (xs ++ ys)) h
  | .str a, .str b => a.length + b.length ≤ SZ ∧ Q (.str (a ++ b)) h
  | _, _ => False
def mMul : MR2 := fun x y h Q => match x, y with
  | .int i, .int j => BitsOk i j ∧ Q (.int (i * j)) h
  | .ref n, .int k => ∃ xs, h[n]? = some (.lst xs) ∧ -(2 ^ 63) ≤ k ∧ k < 2 ^ 63 ∧ xs.length * k.toNat ≤ SZ ∧ Q (.ref h.length) (h ++ [.lst (List.replicate k.toNat xs).flatten])
  | .tup xs, .int k => -(2 ^ 63) ≤ k ∧ k ≤ 1000 ∧ xs.length ≤ 1000 ∧ Q (.tup (List.replicate k.toNat xs).flatten) h
  | _, _ => False
section
variable {K : PySem.W.Frag} {f : List Addr} {mh : MH} {H : Hp} {Q' : KM} {Q : VK}
/-- a new list -/
theorem QL.lst {p : Addr} {ms : List M} {vs : List V} (r : RH K f mh H) (rv : RVs K f H ms vs) (hp : H p = none) (q : Q' (.ref mh.length) (mh ++ [.lst ms])) : QL K f H Q' (.ref p) (upd H p (.lst vs)) := by
  have x : Ext H (upd H p (.lst vs)) := Ext.new hp
  have pf : f <+: f ++ [p] := List.prefix_append _ _
  refine ⟨f ++ [p], mh ++ [.lst ms], .ref mh.length, pf, x, r.alloc (o := .lst ms) hp ⟨vs, upd_same, rv.mono pf x⟩, ⟨p, rfl, ?_⟩, q⟩
  rw [List.getElem?_append_right (by rw [r.len]; exact Nat.le_refl _), r.len]; simp
/-- a new tuple -/
theorem QL.tup {p : Addr} {ms : List M} {vs : List V} (r : RH K f mh H) (rv : RVs K f H ms vs) (hp : H p = none) (q : Q' (.tup ms) mh) : QL K f H Q' (.ref p) (upd H p (.tup vs)) := by
  have x : Ext H (upd H p (.tup vs)) := Ext.new hp
  exact ⟨f, mh, .tup ms, List.prefix_refl _, x, r.new hp, ⟨p, vs, rfl, .of upd_same, rv.mono (List.prefix_refl _) x⟩, q⟩
/-- a list, as it stands -/
theorem RH.lst (r : RH K f mh H) {n : Nat} {xs : List M} {v : V} (h : mh[n]? = some (.lst xs)) (rv : RV K f H (.ref n) v) : ∃ a vs, v = .ref a ∧ f[n]? = some a ∧ H a = some (.lst vs) ∧ RVs K f H xs vs := by
  obtain ⟨a, e, ha⟩ := rv
  obtain ⟨b, hb, vs, e1, r1⟩ := r.at h
  rw [ha] at hb; cases hb
  exact ⟨a, vs, e, ha, e1, r1⟩
theorem RVs.rep {ms : List M} {vs : List V} (h : RVs K f H ms vs) : ∀ k : Nat, RVs K f H (List.replicate k ms).flatten (List.replicate k vs).flatten
  | 0 => rfl
  | k + 1 => by
    rw [List.replicate_succ, List.replicate_succ, List.flatten_cons, List.flatten_cons]
    exact h.append (RVs.rep h k)
end
section
variable {X : Cx}
/-- subtraction, of ints and of bools -/
def rSubA : R2 := fun x y H Q => rI0 (fun i j => .int (i - j)) x y H Q ∨ (∃ a b, x = .bl a ∧ y = .bl b ∧ Q (.int ((if a = true then 1 else 0) - (if b = true then 1 else 0))) H)
def mSubA : MR2 := fun x y h Q => match x, y with
  | .int i, .int j => Q (.int (i - j)) h
  | .bl a, .bl b => Q (.int ((if a = true then 1 else 0) - (if b = true then 1 else 0))) h
  | _, _ => False
theorem op_subB : OpR X (binaryOp .Sub) (fun x y H Q => ∃ a b, x = .bl a ∧ y = .bl b ∧ Q (.int ((if a = true then 1 else 0) - (if b = true then 1 else 0))) H) := by
  intro pins s σ H x y v u Q I rx ry h
  obtain ⟨a, b, rfl, rfl, q⟩ := h
  cases rx
  cases ry
  exact PyProof.Rows.sub_bool ⟨.int ((if a = true then 1 else 0) - (if b = true then 1 else 0)), H, I.tok _, ⟨_, rfl⟩, q⟩
theorem op_subA : OpR X (binaryOp .Sub) rSubA := OpR.or op_sub op_subB
theorem l_subA : L2R X.K rSubA mSubA := by
  intro f mh H x y xv yv Q' Q r rx ry q k
  cases x with
  | int i =>
    cases y with
    | int j =>
      have e1 : xv = .int i := rx
      have e2 : yv = .int j := ry
      subst e1 e2
      exact .inl ⟨i, j, rfl, rfl, k _ _ (QL.same r (m := .int (i - j)) rfl q)⟩
    | _ => exact False.elim q
  | bl a =>
    cases y with
    | bl b =>
      have e1 : xv = .bl a := rx
      have e2 : yv = .bl b := ry
      subst e1 e2
      exact .inr ⟨a, b, rfl, rfl, k _ _ (QL.same r (m := .int _) rfl q)⟩
    | _ => exact False.elim q
  | _ => cases y <;> exact False.elim q
/-- the layer's addition, of all kinds -/
def rAddA (K : PySem.W.Frag) : R2 := fun x y H Q => rI0 (fun i j => .int (i + j)) x y H Q ∨ rCat x y H Q ∨ rCatA K x y H Q ∨ (∃ i j, x = .str i ∧ y = .str j ∧ i.length + j.length ≤ sizeLine ∧ Q (.str (i ++ j)) H)
theorem op_addA : OpR X (binaryOp .Add) (rAddA X.K) := OpR.or op_add (OpR.or op_cat (OpR.or op_catA op_add_str))
theorem l_add : L2R X.K (rAddA X.K) mAdd := by
  intro f mh H x y xv yv Q' Q r rx ry q k
  cases x with
  | int i =>
    cases y with
    | int j =>
      have e1 : xv = .int i := rx
      have e2 : yv = .int j := ry
      subst e1 e2
      exact .inl ⟨i, j, rfl, rfl, k _ _ (QL.same r (m := .int (i + j)) rfl q)⟩
    | _ => exact False.elim q
  | ref n =>
    cases y with
    | ref m =>
      obtain ⟨xs, ys, h1, h2, sz, q⟩ := q
      obtain ⟨a, vs, rfl, ha, e1, r1⟩ := r.lst h1 rx
      obtain ⟨b, us, rfl, hb, e2, r2⟩ := r.lst h2 ry
      refine .inr (.inl ⟨a, b, vs, us, rfl, rfl, e1, e2, by rw [SZ_eq, ← r1.length, ← r2.length]; exact sz, fun p hp => k _ _ (QL.lst r (r1.append r2) hp q)⟩)
    | _ => exact False.elim q
  | tup xs =>
    cases y with
    | tup ys =>
      obtain ⟨sz, q⟩ := q
      obtain ⟨a, vs, rfl, s1, r1⟩ := rx
      obtain ⟨b, us, rfl, s2, r2⟩ := ry
      refine .inr (.inr (.inl ⟨a, b, vs, us, rfl, rfl, s1, s2, by rw [SZ_eq, ← r1.length, ← r2.length]; exact sz, fun e => ?_, fun _ e => ?_, fun _ _ p hp => k _ _ (QL.tup r (r1.append r2) hp q)⟩))
      · have : xs = [] := r1.nil_iff.mpr e
        subst this
        exact k _ _ (QL.same r (m := .tup ys) ⟨b, us, rfl, s2, r2⟩ q)
      · have : ys = [] := r2.nil_iff.mpr e
        subst this
        rw [List.append_nil] at q
        exact k _ _ (QL.same r (m := .tup xs) ⟨a, vs, rfl, s1, r1⟩ q)
    | _ => exact False.elim q
  | str a =>
    cases y with
    | str b =>
      obtain ⟨sz, q⟩ := q
      have e1 : xv = .str a := rx
      have e2 : yv = .str b := ry
      subst e1 e2
      exact .inr (.inr (.inr ⟨a, b, rfl, rfl, by rw [SZ_eq]; exact sz, k _ _ (QL.same r (m := .str (a ++ b)) rfl q)⟩))
    | _ => exact False.elim q
  | _ => cases y <;> exact False.elim q
def rMulA (K : PySem.W.Frag) : R2 := fun x y H Q => rI CMulX (fun i j => .int (i * j)) x y H Q ∨ rRep x y H Q ∨ rRepT K x y H Q ∨ rRepT2 K x y H Q
theorem op_mulA : OpR X (binaryOp .Mult) (rMulA X.K) := OpR.or op_mulX (OpR.or op_rep (OpR.or op_repT op_repT2))
theorem l_mul : L2R X.K (rMulA X.K) mMul := by
  intro f mh H x y xv yv Q' Q r rx ry q k
  cases x with
  | int i =>
    cases y with
    | int j =>
      have e1 : xv = .int i := rx
      have e2 : yv = .int j := ry
      subst e1 e2
      exact .inl ⟨i, j, rfl, rfl, q.1, k _ _ (QL.same r (m := .int (i * j)) rfl q.2)⟩
    | _ => exact False.elim q
  | ref n =>
    cases y with
    | int m =>
      obtain ⟨xs, h1, b1, b2, sz, q⟩ := q
      obtain ⟨a, vs, rfl, ha, e1, r1⟩ := r.lst h1 rx
      have e2 : yv = .int m := ry
      subst e2
      refine .inr (.inl ⟨a, m, vs, rfl, rfl, e1, b1, b2, by rw [SZ_eq, ← r1.length]; exact sz, fun p hp => k _ _ (QL.lst r (r1.rep _) hp q)⟩)
    | _ => exact False.elim q
  | tup xs =>
    cases y with
    | int m =>
      obtain ⟨b1, b2, sz, q⟩ := q
      obtain ⟨a, vs, rfl, s1, r1⟩ := rx
      have e2 : yv = .int m := ry
      subst e2
      by_cases hw : xs ≠ [] ∧ 2 ≤ m
      · exact .inr (.inr (.inl ⟨a, m, vs, rfl, rfl, s1, fun e => hw.1 (r1.nil_iff.mpr e), hw.2, b2, by rw [← r1.length]; exact sz, fun p hp => k _ _ (QL.tup r (r1.rep _) hp q)⟩))
      · refine .inr (.inr (.inr ⟨a, m, vs, rfl, rfl, s1, b1, by omega, ?_, fun e => ?_, fun e h0 p hp => ?_⟩))
        · by_cases h : xs = []
          · exact .inl (r1.nil_iff.mp h)
          · exact .inr (by
              rcases Int.lt_or_le m 2 with h2 | h2
              · exact h2
              · exact absurd ⟨h, h2⟩ hw)
        · have e3 : (List.replicate m.toNat xs).flatten = xs := by
            rcases e with e | e
            · rw [r1.nil_iff.mpr e, List.flatten_replicate_nil]
            · subst e; simp
          rw [e3] at q
          exact k _ _ (QL.same r (m := .tup xs) ⟨a, vs, rfl, s1, r1⟩ q)
        · have e3 : (List.replicate m.toNat xs).flatten = [] := by
            rw [show m.toNat = 0 by omega]; rfl
          rw [e3] at q
          exact k _ _ (QL.tup r (ms := []) (vs := []) rfl hp q)
    | _ => exact False.elim q
  | _ => cases y <;> exact False.elim q
end

/-! ### unary -/
def mNeg : MR1 := fun x h Q => match x with
  | .int i => Q (.int (-i)) h
  | _ => False
theorem l_neg {X : Cx} : L1R X.K (rU fun i => .int (-i)) mNeg := by
  intro f mh H x xv Q' Q r rx q k
  cases x with
  | int i =>
    have e : xv = .int i := rx
    subst e
    exact ⟨i, rfl, k _ _ (QL.same r (m := .int (-i)) rfl q)⟩
  | _ => exact False.elim q
end Mn
end
section
set_option maxHeartbeats 2000000
namespace Mn
open PySem PySem.Spec PyProof.Rows L2

/-! ### room, the context -/
structure RoomG (k : Nat) (A : Around) : Prop where
  r : Room k A
  g : A.guards = some []
theorem RoomG.deeper {k : Nat} {A : Around} (r : RoomG (k + 1) A) (env : Env) : RoomG k (A.deeper env) := ⟨r.r.deeper env, r.g⟩
theorem RoomG.mono {j k : Nat} {A : Around} (r : RoomG k A) (h : j ≤ k) : RoomG j A := ⟨r.r.mono h, r.g⟩
structure CM (X : Cx) (W : WX) (k : Nat) : Prop where
  calm : X.calm = true
  tk : Takes X W
  po : PassesOwn (model X.prog X.w) X.A X.env X.xe
  rm : RoomG k X.A
  sm : ∃ o, X.K.lookup sysModules = some o
  nd : X.N.Nodup

/-! ### promises -/
def liftSp (K : PySem.W.Frag) (msp : MSp) : Sp := fun vs H Q E => ∃ f mh ms Q' E', RH K f mh H ∧ RVs K f H ms vs ∧ msp ms mh Q' E' ∧ (∀ v H', QL K f H Q' v H' → Q v H') ∧ (∀ cls d H', XL K f H E' cls d H' → E cls d H')
structure FnM (P : Program) (w : World) (K : PySem.W.Frag) (mg : Str → Option Value) (base : Heap) (k : Nat) (f : Addr) (fd : FuncData) (ps : List Str) (sp : MSp) : Prop where
  len : ∀ ms h Q E, sp ms h Q E → ms.length = ps.length
  run : ∀ (A : Around) (outer : List Env) (s : Shared) (H : Hp) (args : Args) (us : List Value) (vs : List V) (Q : VK) (E : XK), RoomG k A → Env0 P w K mg base A outer s H → BindsTo s fd args (ps.zip us) → Vals vs us → liftSp K sp vs H Q E →
    codeAny (model P w) A (.call (.ref f) args) (CR (L2.CX P w) outer P w H s Q E) s
theorem liftSp.len {K : PySem.W.Frag} {sp : MSp} {n : Nat} (h : ∀ ms h Q E, sp ms h Q E → ms.length = n) {vs : List V} {H : Hp} {Q : VK} {E : XK} (l : liftSp K sp vs H Q E) : vs.length = n := by
  obtain ⟨f, mh, ms, Q', E', _, r, q, _⟩ := l
  rw [← r.length]; exact h _ _ _ _ q
theorem FnM.mono {P : Program} {w : World} {K : PySem.W.Frag} {mg : Str → Option Value} {base : Heap} {j k : Nat} {f : Addr} {fd : FuncData} {ps : List Str} {sp : MSp} (F : FnM P w K mg base j f fd ps sp) (h : j ≤ k) : FnM P w K mg base k f fd ps sp :=
  ⟨F.len, fun A outer s H args us vs Q E r => F.run A outer s H args us vs Q E (r.mono h)⟩
/-- a weaker promise -/
theorem FnM.imp {P : Program} {w : World} {K : PySem.W.Frag} {mg : Str → Option Value} {base : Heap} {k : Nat} {f : Addr} {fd : FuncData} {ps : List Str} {sp sp' : MSp} (F : FnM P w K mg base k f fd ps sp) (h : ∀ ms mh Q E, sp' ms mh Q E → sp ms mh Q E) : FnM P w K mg base k f fd ps sp' :=
  ⟨fun ms mh Q E q => F.len _ _ _ _ (h _ _ _ _ q), fun A outer s H args us vs Q E r e b v ⟨f, mh, ms, Q', E', a1, a2, a3, a4, a5⟩ => F.run A outer s H args us vs Q E r e b v ⟨f, mh, ms, Q', E', a1, a2, h _ _ _ _ a3, a4, a5⟩⟩

/-- the slots at the entry -/
def startM (N : List Str) (ms : List M) : MS := ms.map some ++ List.replicate (N.length - ms.length) none
theorem start_rel {K : PySem.W.Frag} {f : List Addr} {H : Hp} {N : List Str} {ms : List M} {vs : List V} (r : RVs K f H ms vs) : RS K f H (startM N ms) (L2.start N vs) := by
  have l := r.length
  refine ⟨by simp [startM, L2.start, l], fun i m e => ?_⟩
  unfold startM at e
  unfold L2.start
  by_cases hi : i < ms.length
  · rw [List.getElem?_append_left (by simpa using hi)] at e
    rw [List.getElem?_map] at e
    cases q : ms[i]? with
    | none => rw [q] at e; cases e
    | some m' =>
      rw [q] at e
      have e' : m' = m := by simpa using e
      subst e'
      obtain ⟨v, h1, h2⟩ := r.get q
      refine ⟨v, ?_, h2⟩
      rw [List.getElem?_append_left (by simp; omega), List.getElem?_map, h1]; rfl
  · rw [List.getElem?_append_right (by simp; omega)] at e
    have z := List.mem_of_getElem? e
    have := (List.mem_replicate.mp z).2
    cases this

/-- a def's body, as the law's small world runs it -/
def runM (N : List Str) (n : Nat) (wb : MTS) : MSp := fun ms h Q E => ms.length = n ∧ wb { nx := fun _ h => Q .non h, rt := Q, bk := fun _ _ => False, ct := fun _ _ => False, xc := fun e _ h => E e h } (startM N ms) h
section
variable {P : Program} {w : World} {K : PySem.W.Frag} {mg : Str → Option Value} {base : Heap} {k : Nat} {f : Addr} {name qual : Str} {params : Arguments} {body : List Stmt} {scope : Scope} {N ps : List Str} {wb : MTS}
/-- the context of a def's body -/
abbrev cxM (P : Program) (w : World) (K : PySem.W.Frag) (mg : Str → Option Value) (base : Heap) (N : List Str) (qual : Str) (scope : Scope) (f : Addr) (cd : Value) (A : Around) (outer : List Env) (s : Shared) (H : Hp) (E : XK) : Cx := cxOf (L2.CX P w) P w K mg base N qual scope f cd A outer s H E
theorem cm_of {cd : Value} {A : Around} {outer : List Env} {s : Shared} {H : Hp} {E : XK} (sm : ∃ o, K.lookup sysModules = some o) (nd : N.Nodup) (r : RoomG k (A.deeper (envOfC qual scope s.heap.objs.size f cd))) :
    CM (cxM P w K mg base N qual scope f cd A outer s H E) (fun cls d _ H => E cls d H) k where
  calm := rfl
  tk := takes_of rfl rfl rfl rfl
  po := passes_of (E₁ := fun e' s'' => L2.CX P w outer H s E e' s'') rfl
  rm := r
  sm := sm
  nd := nd
theorem fnm_of {dvs : List V} {kws : List (Str × V)} {fd : FuncData} (F : FunD K name qual params body scope dvs kws f fd) (S : FnScope N ps scope) (sm : ∃ o, K.lookup sysModules = some o)
    (hbody : ∀ (cd : Value) (A : Around) (outer : List Env) (s : Shared) (H : Hp) (E : XK), CM (cxM P w K mg base N qual scope f cd A outer s H E) (fun cls d _ H => E cls d H) k →
      SsOk (cxM P w K mg base N qual scope f cd A outer s H E) (fun cls d _ H => E cls d H) body wb) :
    FnM P w K mg base (k + 1) f fd ps (runM N ps.length wb) where
  len := fun ms h Q E q => q.1
  run := fun A outer s H args us vs Q E hr e0 hb r h => by
    obtain ⟨oc, od, dV, kV, doc, pm, an, cdv, ct, osl, rfl, lk, hcd, _, _⟩ := F.ex
    have hl : vs.length = ps.length := liftSp.len (fun _ _ _ _ q => q.1) h
    refine LamX.run_ofS (k := k) lk hcd S hr.r e0 hb r hl fun hr' => ?_
    obtain ⟨fa, mh, ms, Q', E', h1, h2, ⟨_, h3⟩, h4, h5⟩ := h
    refine ⟨_, hbody cdv A outer s H E (cm_of sm S.nd (hr.deeper _)), fa, startM N ms, mh, { nx := fun _ h => Q' .non h, rt := Q', bk := fun _ _ => False, ct := fun _ _ => False, xc := fun e _ h => E' e h }, ⟨h1, start_rel h2, ?_, fun v H' q => h4 v H' q, ?_, ?_, ?_⟩, h3⟩
    · rintro σ' H' ⟨f', mh', sm', p, x, r', s', q⟩
      exact h4 _ _ ⟨f', mh', .non, p, x, r', rfl, q⟩
    · rintro σ' H' ⟨f', mh', sm', p, x, r', s', q⟩; exact q.elim
    · rintro σ' H' ⟨f', mh', sm', p, x, r', s', q⟩; exact q.elim
    · rintro cls d σ' H' ⟨f', mh', sm', C, ks, ms, us, dx, p, x, r', s', e1, e2, e3, l, rv, q⟩
      exact h5 _ _ _ ⟨f', mh', C, ks, ms, us, dx, p, x, r', e1, e2, e3, l, rv, q⟩
end

/-! ### arguments -/
def wNil : MTA := fun _ h Q _ => Q [] h
def wCons (w : MTE) (r : MTA) : MTA := fun sm h Q E => w sm h (fun m h1 => r sm h1 (fun ms h2 => Q (m :: ms) h2) E) E
section
variable {X : Cx} {W : WX} {e : Expr} {es : List Expr} {we : MTE} {wr : MTA}
theorem ma_nil : AOk X W [] wNil := PA.mono pa_nil fun σ H Q ⟨f, sm, mh, Q', E, a, q, k⟩ => k [] H ⟨f, mh, [], List.prefix_refl _, Ext.refl _, a.h, rfl, q⟩
theorem ma_cons (he : EOk X W e we) (hr : AOk X W es wr) (hs : starEach (e :: es) X.env = (false, eval e X.env) :: starEach es X.env := by rfl) : AOk X W (e :: es) (wCons we wr) :=
  PA.mono (pa_cons he hr hs) fun σ H Q ⟨f, sm, mh, Q', E, a, q, k⟩ =>
    a.go q fun f1 mh1 H1 m1 v1 p1 x1 a1 r1 q1 => a1.goA q1 fun f2 mh2 H2 m2 v2 p2 x2 a2 r2 q2 => k _ _ ⟨f2, mh2, m1 :: m2, p1.trans p2, x1.trans x2, a2.h, ⟨v1, v2, rfl, r1.mono p2 x2, r2⟩, q2⟩
/-! keywords -/
abbrev KOk (X : Cx) (W : WX) (kws : List Keyword) (w : MTA) : Prop := PK X kws (liftA X.K W w)
theorem PK.mono {kws : List Keyword} {t u : TA} (h : PK X kws t) (i : ∀ σ H Q, u σ H Q → t σ H Q) : PK X kws u := ⟨fun pos pins s σ H Q I q => h.run pos pins s σ H Q I (i σ H Q q)⟩
theorem mk_nil : KOk X W [] wNil := PK.mono pk_nil fun σ H Q ⟨f, sm, mh, Q', E, a, q, k⟩ => k [] H ⟨f, mh, [], List.prefix_refl _, Ext.refl _, a.h, rfl, q⟩
theorem mk_cons {kws : List Keyword} {nm : Option Str} {kpos : Pos} (he : EOk X W e we) (hr : KOk X W kws wr) : KOk X W (⟨nm, e, kpos⟩ :: kws) (wCons we wr) :=
  PK.mono (pk_cons he hr) fun σ H Q ⟨f, sm, mh, Q', E, a, q, k⟩ =>
    a.go q fun f1 mh1 H1 m1 v1 p1 x1 a1 r1 q1 => a1.goA q1 fun f2 mh2 H2 m2 v2 p2 x2 a2 r2 q2 => k _ _ ⟨f2, mh2, m1 :: m2, p1.trans p2, x1.trans x2, a2.h, ⟨v1, v2, rfl, r1.mono p2 x2, r2⟩, q2⟩
end

/-! ### the call of a def -/
/-- how a call binds: n positional values us, the keywords' values ws (names ks); g: all in the parameters' order -/
structure KBm (K : PySem.W.Frag) (fd : FuncData) (ps : List Str) (n : Nat) (ks : List Str) (g : List Value → List Value → List Value) (gM : List M → List M → List M) : Prop where
  to : ∀ (s : Shared) (us ws : List Value), K.In s.heap → us.length = n → ws.length = ks.length → BindsTo s fd ⟨us, ks.zip ws⟩ (ps.zip (g us ws))
  rel : ∀ (f : List Addr) (H : Hp) (ms ns : List M) (vs zs : List V) (us ws : List Value), ms.length = n → ns.length = ks.length → RVs K f H ms vs → RVs K f H ns zs → Vals vs us → Vals zs ws → ∃ gv, Vals gv (g us ws) ∧ RVs K f H (gM ms ns) gv
def wCall (sp : MSp) (n : Nat) (wa : MTA) : MTE := fun sm h Q E => wa sm h (fun ms h1 => ms.length = n ∧ sp ms h1 Q E) E
def wCallK (sp : MSp) (gM : List M → List M → List M) (n m : Nat) (wa wk : MTA) : MTE := fun sm h Q E => wa sm h (fun ms h1 => wk sm h1 (fun ns h2 => ms.length = n ∧ ns.length = m ∧ sp (gM ms ns) h2 Q E) E) E
section
variable {X : Cx} {W : WX} {k : Nat} {f : Addr} {fd : FuncData} {ps ks : List Str} {sp : MSp} {n : Nat} {g : List Value → List Value → List Value} {gM : List M → List M → List M}
theorem fnm_run {pins : List (Addr × Obj)} {σ : L2.St} {H : Hp} {s : Shared} {Q : VK} {us ws : List Value} {vs zs : List V} {fa : List Addr} {sm : MS} {mh : MH} {ms ns : List M} {Q' : KM} {E : KM} (F : FnM X.prog X.w X.K X.mg X.base k f fd ps sp) (c : CM X W k) (hb : KBm X.K fd ps n ks g gM)
    (I : Inv X pins σ H s) (a : At X.K W fa sm mh σ H E) (r : Vals vs us) (rz : Vals zs ws) (rm : RVs X.K fa H ms vs) (rn : RVs X.K fa H ns zs) (l1 : ms.length = n) (l2 : ns.length = ks.length) (h : sp (gM ms ns) mh Q' E) (hQ : ∀ v H', QL X.K fa H Q' v H' → Q v H') :
    wpAny (model X.prog X.w) X.A (call (.ref f) us (ks.zip ws)) (EP X pins σ Q) X.xe s := by
  obtain ⟨gv, g1, g2⟩ := hb.rel fa H ms ns vs zs us ws l1 l2 rm rn r rz
  refine wpAny_call (codeAny_mono (F.run X.A X.stack s H ⟨us, ks.zip ws⟩ (g us ws) gv Q (fun cls d H' => W cls d σ H') c.rm I.env0
    (hb.to s us ws I.kIn (by rw [← r.length, ← rm.length]; exact l1) (by rw [← rz.length, ← rn.length]; exact l2)) g1 ⟨fa, mh, _, Q', E, a.h, g2, h, hQ, a.e⟩) fun r s' hq => ?_)
  cases r with
  | error e => exact c.tk e s' (XE.of_call I (fun cls d H' q => q) hq)
  | ok fl =>
    cases fl with
    | ret u => exact I.after hq
    | next => exact False.elim hq
    | brk => exact False.elim hq
    | cont => exact False.elim hq
variable {x : Str} {p pos : Pos} {e : Expr} {es : List Expr} {kws : List Keyword} {wa wk : MTA}
theorem PE.run' {w : MTE} (h : EOk X W e w) : ∀ (pins : List (Addr × Obj)) (s : Shared) (σ : L2.St) (H : Hp) (Q : VK), Inv X pins σ H s → liftE X.K W w σ H Q → wpAny (model X.prog X.w) X.A (eval e X.env) (EP X pins σ Q) X.xe s := h.run
/-- f(e, ..) -/
theorem m_call (F : FnM X.prog X.w X.K X.mg X.base k f fd ps sp) (c : CM X W k) (hg : Gl X x) (hm : X.mg x = some (.ref f)) (hk : PySem.W.keepIn X.K (.ref f) = true) (hb : KBm X.K fd ps n [] g gM)
    (ha : AOk X W (e :: es) wa) (hdb : (x == ("__debug__" : Str)) = false := by decide) (he : starEach (e :: es) X.env = (false, eval e X.env) :: starEach es X.env := by rfl) (hpl : (backTo pos (starEach es X.env)).any (·.1) = false := by rfl) :
    EOk X W (.Call (.Name x p) (e :: es) [] pos) (wCall (fun ms => sp (gM ms [])) n wa) := by
  refine ⟨fun pins s σ H Q I h => ?_⟩
  obtain ⟨fa, sm, mh, Q', E, a, q, hQ⟩ := h
  refine wpAny_Call_Name_kw (ld_glob I hg hm ?_ hdb)
  refine PySem.W.callWith_K (h₀ := X.base) I.ok.mod.kin hk (thn (ha.run pos pins s σ H _ I ⟨fa, sm, mh, _, E, a, q, fun v H' z => z⟩) fun us s1 ⟨vs, H1, I1, r, f1, mh1, ms, p1, x1, r1, rm, l1, q1⟩ => ⟨I1.kIn, ?_⟩) he hpl
  exact fnm_run (ks := []) (ws := []) (zs := []) (ns := []) F c hb I1 (a.step p1 x1 r1) r .nil rm rfl l1 rfl q1 fun v H' z => hQ v H' (z.back p1 x1)
/-- f() -/
theorem m_call0 (F : FnM X.prog X.w X.K X.mg X.base k f fd ps sp) (c : CM X W k) (hg : Gl X x) (hm : X.mg x = some (.ref f)) (hk : PySem.W.keepIn X.K (.ref f) = true) (hb : KBm X.K fd ps 0 [] g gM)
    (hdb : (x == ("__debug__" : Str)) = false := by decide) : EOk X W (.Call (.Name x p) [] [] pos) (wCall (fun ms => sp (gM ms [])) 0 wNil) := by
  refine ⟨fun pins s σ H Q I h => ?_⟩
  obtain ⟨fa, sm, mh, Q', E, a, ⟨l1, q⟩, hQ⟩ := h
  refine wpAny_Call_Name_kw (ld_glob I hg hm ?_ hdb)
  refine PySem.W.callWith_K0 I.kIn hk ?_
  exact fnm_run (us := []) (vs := []) (ms := []) (ks := []) (ws := []) (zs := []) (ns := []) F c hb I a .nil .nil rfl rfl rfl rfl q hQ
/-- f(e, .., k = v, ..) -/
theorem m_callK (F : FnM X.prog X.w X.K X.mg X.base k f fd ps sp) (c : CM X W k) (hg : Gl X x) (hm : X.mg x = some (.ref f)) (hk : PySem.W.keepIn X.K (.ref f) = true) (hb : KBm X.K fd ps n ks g gM)
    (ha : AOk X W (e :: es) wa) (hkw : KOk X W kws wk) (hall : (backToKw pos (keywordEach kws X.env)).all (·.1.isSome) = true := by rfl) (hks : (backToKw pos (keywordEach kws X.env)).filterMap (·.1) = ks := by rfl)
    (hdb : (x == ("__debug__" : Str)) = false := by decide) (he : starEach (e :: es) X.env = (false, eval e X.env) :: starEach es X.env := by rfl)
    (hpl : ((backTo pos (starEach (e :: es) X.env)).any (·.1) || (backToKw pos (keywordEach kws X.env)).any (·.1.isNone)) = false := by rfl) :
    EOk X W (.Call (.Name x p) (e :: es) kws pos) (wCallK sp gM n ks.length wa wk) := by
  refine ⟨fun pins s σ H Q I h => ?_⟩
  obtain ⟨fa, sm, mh, Q', E, a, q, hQ⟩ := h
  refine wpAny_Call_Name_kw (ld_glob I hg hm ?_ hdb)
  refine PySem.W.callWith_KW (h₀ := X.base) I.ok.mod.kin hk hall (thn (ha.run pos pins s σ H _ I ⟨fa, sm, mh, _, E, a, q, fun v H' z => z⟩) fun us s1 ⟨vs, H1, I1, r, f1, mh1, ms, p1, x1, r1, rm, q1⟩ => ?_) hpl he
  have a1 := a.step p1 x1 r1
  refine thn (hkw.run pos pins s1 σ H1 _ I1 ⟨f1, sm, mh1, _, E, a1, q1, fun v H' z => z⟩) fun ws s2 ⟨zs, H2, I2, rz, f2, mh2, ns, p2, x2, r2, rn, l1, l2, q2⟩ => ⟨I2.kIn, ?_⟩
  rw [hks]
  exact fnm_run F c hb I2 (a1.step p2 x2 r2) r rz (rm.mono p2 x2) rn l1 l2 q2 fun v H' z => hQ v H' ((z.back p2 x2).back p1 x1)
/-- f(k = v, ..) -/
theorem m_callK0 (F : FnM X.prog X.w X.K X.mg X.base k f fd ps sp) (c : CM X W k) (hg : Gl X x) (hm : X.mg x = some (.ref f)) (hk : PySem.W.keepIn X.K (.ref f) = true) (hb : KBm X.K fd ps 0 ks g gM)
    (hkw : KOk X W kws wk) (hall : (backToKw pos (keywordEach kws X.env)).all (·.1.isSome) = true := by rfl) (hks : (backToKw pos (keywordEach kws X.env)).filterMap (·.1) = ks := by rfl)
    (hdb : (x == ("__debug__" : Str)) = false := by decide)
    (hpl : ((backTo pos (starEach [] X.env)).any (·.1) || (backToKw pos (keywordEach kws X.env)).any (·.1.isNone)) = false := by rfl) :
    EOk X W (.Call (.Name x p) [] kws pos) (wCallK sp gM 0 ks.length wNil wk) := by
  refine ⟨fun pins s σ H Q I h => ?_⟩
  obtain ⟨fa, sm, mh, Q', E, a, q, hQ⟩ := h
  refine wpAny_Call_Name_kw (ld_glob I hg hm ?_ hdb)
  refine PySem.W.callWith_KW0 (h₀ := X.base) I.ok.mod.kin hk hall (thn (hkw.run pos pins s σ H _ I ⟨fa, sm, mh, _, E, a, q, fun v H' z => z⟩) fun ws s2 ⟨zs, H2, I2, rz, f2, mh2, ns, p2, x2, r2, rn, l1, l2, q2⟩ => ⟨I2.kIn, ?_⟩) hpl
  rw [hks]
  exact fnm_run (us := []) (vs := []) (ms := []) F c hb I2 (a.step p2 x2 r2) .nil rz rfl rn rfl l2 q2 fun v H' z => hQ v H' (z.back p2 x2)
end
end Mn
end
section
set_option maxHeartbeats 2000000
namespace Mn
open PySem PySem.Spec PyProof.Rows L2

/-! ### truth, tests -/
def truM (h : MH) : M → Option Bool
  | .non => some false
  | .bl b => some b
  | .int i => some (i != 0)
  | .str s => some ((s.length : Int) != 0)
  | .tup xs => some (!xs.isEmpty)
  | .ref n => match h[n]? with
    | some (.lst xs) => some (!xs.isEmpty)
    | _ => none
  | _ => none
def wTru (w : MTE) : MTT := fun sm h Q E => w sm h (fun m h1 => ∃ b, truM h1 m = some b ∧ Q b h1) E
def wTst (w : MTE) : MTT := fun sm h Q E => w sm h (fun m h1 => ∃ b, m = .bl b ∧ Q b h1) E
def wAndT (t u : MTT) : MTT := fun sm h Q E => t sm h (fun b h1 => if b = true then u sm h1 Q E else Q false h1) E
def wOrT (t u : MTT) : MTT := fun sm h Q E => t sm h (fun b h1 => if b = true then Q true h1 else u sm h1 Q E) E
def wNotT (t : MTT) : MTT := fun sm h Q E => t sm h (fun b h1 => Q (!b) h1) E
def wAndV (a b : MTE) : MTE := fun sm h Q E => a sm h (fun x h1 => ∃ c, x = .bl c ∧ if c = true then b sm h1 Q E else Q (.bl false) h1) E
def wOrV (a b : MTE) : MTE := fun sm h Q E => a sm h (fun x h1 => ∃ c, x = .bl c ∧ if c = true then Q (.bl true) h1 else b sm h1 Q E) E
def wNotV (t : MTT) : MTE := fun sm h Q E => t sm h (fun b h1 => Q (.bl (!b)) h1) E
def wIfE (t : MTT) (a b : MTE) : MTE := fun sm h Q E => t sm h (fun c h1 => if c = true then a sm h1 Q E else b sm h1 Q E) E
def wChain (r r' : MR2) (a b c : MTE) : MTE := fun sm h Q E => a sm h (fun x h1 => b sm h1 (fun y h2 => r x y h2 (fun z h3 => ∃ k, z = .bl k ∧ if k = true then c sm h3 (fun w h4 => r' y w h4 Q) E else Q (.bl false) h3)) E) E
section
variable {K : PySem.W.Frag} {f : List Addr} {mh : MH} {H : Hp}
theorem truM_ok (r : RH K f mh H) {m : M} {v : V} {b : Bool} (rv : RV K f H m v) (h : truM mh m = some b) (sz : ∀ s, m = .str s → s.length ≤ sizeLine := by intro s e; cases e) : TruV K v H b := by
  cases m with
  | non => have e : v = .non := rv; subst e; exact (by simpa [truM] using h.symm : b = false)
  | bl c => have e : v = .bl c := rv; subst e; exact (by simpa [truM] using h.symm : b = c)
  | int i => have e : v = .int i := rv; subst e; exact (by simpa [truM] using h.symm : b = (i != 0))
  | str s => have e : v = .str s := rv; subst e; exact ⟨sz s rfl, by simpa [truM] using h.symm⟩
  | tup xs =>
    obtain ⟨a, vs, rfl, s, r1⟩ := rv
    refine .inr (.inl ⟨vs, s, ?_⟩)
    have : (!xs.isEmpty) = b := by simpa [truM] using h
    rw [← this]
    cases xs <;> cases vs <;> first | rfl | (have := r1.length; simp at this)
  | ref n =>
    have h : (match mh[n]? with | some (.lst xs) => some (!xs.isEmpty) | _ => none) = some b := h
    cases q : mh[n]? with
    | none => rw [q] at h; cases h
    | some o =>
      rw [q] at h
      cases o with
      | lst xs =>
        obtain ⟨a, vs, rfl, ha, e1, r1⟩ := r.lst q rv
        refine .inl ⟨vs, .of e1, ?_⟩
        have : (!xs.isEmpty) = b := by simpa using h
        rw [← this]
        cases xs <;> cases vs <;> first | rfl | (have := r1.length; simp at this)
      | _ => cases h
  | _ => cases h
end
section
variable {X : Cx} {W : WX} {a b c : Expr} {wa wb wc : MTE} {ta tb : MTT} {pos : Pos} {rest : List Expr}
/-- a value that is no text, as a test -/
theorem t_tru (ha : EOk X W a wa) (he : ∀ whole, isTrue a X.env whole = (do let v ← whole; standAt a.pos; holding [v] (truthy v)) := by intro _; rfl) : TOk X W a (fun sm h Q E => wa sm h (fun m h1 => (∀ s, m ≠ .str s) ∧ ∃ b, truM h1 m = some b ∧ Q b h1) E) :=
  PT.mono (pt_truth ha he) fun σ H Q ⟨f, sm, mh, Q', E, a, q, k⟩ =>
    a.go q fun f1 mh1 H1 m v p x a1 r1 ⟨ns, d, h1, q1⟩ => ⟨d, truM_ok a1.h r1 h1 (fun s e => absurd e (ns s)), k _ _ ⟨f1, mh1, p, x, a1.h, q1⟩⟩
theorem TOk.mono {w w' : MTT} (h : TOk X W a w) (i : ∀ sm mh Q E, w' sm mh Q E → w sm mh Q E) : TOk X W a w' := PT.mono h fun σ H Q ⟨f, sm, mh, Q', E, a, q, k⟩ => ⟨f, sm, mh, Q', E, a, i _ _ _ _ q, k⟩
/-- a value that is a bool, as a test -/
theorem t_val (ha : EOk X W a wa) (he : ∀ whole, isTrue a X.env whole = (do let v ← whole; standAt a.pos; holding [v] (truthy v)) := by intro _; rfl) : TOk X W a (wTst wa) :=
  PT.mono (pt_val ha he) fun σ H Q ⟨f, sm, mh, Q', E, a, q, k⟩ =>
    a.go q fun f1 mh1 H1 m v p x a1 r1 ⟨d, h1, q1⟩ => by
      subst h1
      exact ⟨d, r1, k _ _ ⟨f1, mh1, p, x, a1.h, q1⟩⟩
theorem t_cmp {op : CmpOp} {r : R2} {m : MR2} (ho : OpR X (compareOp op) r) (l : L2R X.K r m) (ha : EOk X W a wa) (hb : EOk X W b wb) (hm : behindInMarks op b = false) : TOk X W (.Compare a [op] [b] pos) (wTst (wOp m wa wb)) :=
  PT.mono (pt_cmpR ho ha hb hm) fun σ H Q ⟨f, sm, mh, Q', E, a, q, k⟩ =>
    a.go q fun f1 mh1 H1 m1 v1 p1 x1 a1 r1 q1 => a1.go q1 fun f2 mh2 H2 m2 v2 p2 x2 a2 r2 q2 =>
      l f2 mh2 H2 m1 m2 v1 v2 _ _ a2.h (r1.mono p2 x2) r2 q2 fun v H' ⟨f3, mh3, m3, p3, x3, r3, rv3, d, e, q3⟩ => by
        subst e
        exact ⟨d, rv3, k _ _ ⟨f3, mh3, (p1.trans p2).trans p3, (x1.trans x2).trans x3, r3, q3⟩⟩
theorem m_chain {op op' : CmpOp} {r r' : R2} {m m' : MR2} (ho : OpR X (compareOp op) r) (l : L2R X.K r m) (ho' : OpR X (compareOp op') r') (l' : L2R X.K r' m') (ha : EOk X W a wa) (hb : EOk X W b wb) (hc : EOk X W c wc)
    (hm : lastMarks [op, op'] [b, c] = false := by with_unfolding_all rfl) : EOk X W (.Compare a [op, op'] [b, c] pos) (wChain m m' wa wb wc) :=
  PE.mono (pe_chain ho ho' ha hb hc hm) fun σ H Q ⟨f, sm, mh, Q', E, a, q, k⟩ =>
    a.go q fun f1 mh1 H1 m1 v1 p1 x1 a1 r1 q1 => a1.go q1 fun f2 mh2 H2 m2 v2 p2 x2 a2 r2 q2 =>
      l f2 mh2 H2 m1 m2 v1 v2 _ _ a2.h (r1.mono p2 x2) r2 q2 fun v H' ⟨f3, mh3, m3, p3, x3, r3, rv3, d, e, q3⟩ => by
        subst e
        refine ⟨d, rv3, ?_⟩
        cases d with
        | true =>
          exact (a2.step p3 x3 r3).go q3 fun f4 mh4 H4 m4 v4 p4 x4 a4 r4 q4 => l' f4 mh4 H4 m2 m4 v2 v4 _ _ a4.h ((r2.mono p3 x3).mono p4 x4) r4 q4 fun v H5 z => k _ _ ((((z.back p4 x4).back p3 x3).back p2 x2).back p1 x1)
        | false => exact k _ _ ⟨f3, mh3, .bl false, (p1.trans p2).trans p3, (x1.trans x2).trans x3, r3, rfl, q3⟩
theorem t_chain {op op' : CmpOp} {r r' : R2} {m m' : MR2} (ho : OpR X (compareOp op) r) (l : L2R X.K r m) (ho' : OpR X (compareOp op') r') (l' : L2R X.K r' m') (ha : EOk X W a wa) (hb : EOk X W b wb) (hc : EOk X W c wc)
    (hm : lastMarks [op, op'] [b, c] = false := by with_unfolding_all rfl) : TOk X W (.Compare a [op, op'] [b, c] pos) (wTst (wChain m m' wa wb wc)) :=
  PT.mono (pt_chain ho ho' ha hb hc hm) fun σ H Q ⟨f, sm, mh, Q', E, a, q, k⟩ =>
    a.go q fun f1 mh1 H1 m1 v1 p1 x1 a1 r1 q1 => a1.go q1 fun f2 mh2 H2 m2 v2 p2 x2 a2 r2 q2 =>
      l f2 mh2 H2 m1 m2 v1 v2 _ _ a2.h (r1.mono p2 x2) r2 q2 fun v H' ⟨f3, mh3, m3, p3, x3, r3, rv3, d, e, q3⟩ => by
        subst e
        refine ⟨d, rv3, ?_⟩
        cases d with
        | true =>
          exact (a2.step p3 x3 r3).go q3 fun f4 mh4 H4 m4 v4 p4 x4 a4 r4 q4 => l' f4 mh4 H4 m2 m4 v2 v4 _ _ a4.h ((r2.mono p3 x3).mono p4 x4) r4 q4 fun v H5 ⟨f5, mh5, m5, p5, x5, r5, rv5, d5, e5, q5⟩ => by
            subst e5
            exact ⟨d5, rv5, k _ _ ⟨f5, mh5, (((p1.trans p2).trans p3).trans p4).trans p5, (((x1.trans x2).trans x3).trans x4).trans x5, r5, q5⟩⟩
        | false =>
          obtain ⟨b', e', q'⟩ := q3
          cases e'
          exact ⟨false, rfl, k _ _ ⟨f3, mh3, (p1.trans p2).trans p3, (x1.trans x2).trans x3, r3, q'⟩⟩
/-! and, or, not -/
structure WOk (X : Cx) (W : WX) (e : Expr) (w : MTT) : Prop where
  w : PW X e (liftT X.K W w)
theorem w_and1 (ha : TOk X W a ta) : WOk X W (.BoolOp .And [a] pos) ta := ⟨pw_and1 ha⟩
theorem w_or1 (ha : TOk X W a ta) : WOk X W (.BoolOp .Or [a] pos) ta := ⟨pw_or1 ha⟩
theorem PW.mono {e : Expr} {t u : TT} (h : PW X e t) (i : ∀ σ H Q, u σ H Q → t σ H Q) : PW X e u := ⟨fun wh pins s σ H Q I q => h.run wh pins s σ H Q I (i σ H Q q)⟩
theorem w_and (ha : TOk X W a ta) (hb : WOk X W (.BoolOp .And (b :: rest) pos) tb) : WOk X W (.BoolOp .And (a :: b :: rest) pos) (wAndT ta tb) :=
  ⟨PW.mono (pw_and ha hb.w) fun σ H Q ⟨f, sm, mh, Q', E, a, q, k⟩ => a.goT q fun f1 mh1 H1 d p x a1 q1 => by
    cases d with
    | true => exact ⟨f1, sm, mh1, Q', E, a1, q1, fun v H' z => k v H' (z.back p x)⟩
    | false => exact k _ _ ⟨f1, mh1, p, x, a1.h, q1⟩⟩
theorem w_or (ha : TOk X W a ta) (hb : WOk X W (.BoolOp .Or (b :: rest) pos) tb) : WOk X W (.BoolOp .Or (a :: b :: rest) pos) (wOrT ta tb) :=
  ⟨PW.mono (pw_or ha hb.w) fun σ H Q ⟨f, sm, mh, Q', E, a, q, k⟩ => a.goT q fun f1 mh1 H1 d p x a1 q1 => by
    cases d with
    | false => exact ⟨f1, sm, mh1, Q', E, a1, q1, fun v H' z => k v H' (z.back p x)⟩
    | true => exact k _ _ ⟨f1, mh1, p, x, a1.h, q1⟩⟩
theorem t_w {e : Expr} (h : WOk X W e ta) : TOk X W e ta := h.w.pt
theorem t_not (ha : TOk X W a ta) : TOk X W (.UnaryOp .Not a pos) (wNotT ta) :=
  PT.mono (pt_not ha) fun σ H Q ⟨f, sm, mh, Q', E, a, q, k⟩ => a.goT q fun f1 mh1 H1 d p x a1 q1 => k _ _ ⟨f1, mh1, p, x, a1.h, q1⟩
theorem m_and1 {op : BoolOp} (h : EOk X W a wa) : EOk X W (.BoolOp op [a] pos) wa := pe_one h
theorem m_and (ha : EOk X W a wa) (hb : EOk X W (.BoolOp .And (b :: rest) pos) wb) : EOk X W (.BoolOp .And (a :: b :: rest) pos) (wAndV wa wb) :=
  PE.mono (pe_and ha hb) fun σ H Q ⟨f, sm, mh, Q', E, a, q, k⟩ => a.go q fun f1 mh1 H1 m v p x a1 r1 ⟨c, e, q1⟩ => by
    subst e
    refine ⟨c, r1, ?_⟩
    cases c with
    | true => exact ⟨f1, sm, mh1, Q', E, a1, q1, fun v H' z => k v H' (z.back p x)⟩
    | false => exact k _ _ ⟨f1, mh1, .bl false, p, x, a1.h, rfl, q1⟩
theorem m_or (ha : EOk X W a wa) (hb : EOk X W (.BoolOp .Or (b :: rest) pos) wb) : EOk X W (.BoolOp .Or (a :: b :: rest) pos) (wOrV wa wb) :=
  PE.mono (pe_or ha hb) fun σ H Q ⟨f, sm, mh, Q', E, a, q, k⟩ => a.go q fun f1 mh1 H1 m v p x a1 r1 ⟨c, e, q1⟩ => by
    subst e
    refine ⟨c, r1, ?_⟩
    cases c with
    | false => exact ⟨f1, sm, mh1, Q', E, a1, q1, fun v H' z => k v H' (z.back p x)⟩
    | true => exact k _ _ ⟨f1, mh1, .bl true, p, x, a1.h, rfl, q1⟩
theorem m_not (ha : EOk X W a wa) : EOk X W (.UnaryOp .Not a pos) (fun sm h Q E => wa sm h (fun x h1 => ∃ c, x = .bl c ∧ Q (.bl (!c)) h1) E) :=
  PE.mono (pe_not ha) fun σ H Q ⟨f, sm, mh, Q', E, a, q, k⟩ => a.go q fun f1 mh1 H1 m v p x a1 r1 ⟨c, e, q1⟩ => by
    subst e
    exact ⟨c, r1, k _ _ ⟨f1, mh1, .bl (!c), p, x, a1.h, rfl, q1⟩⟩
theorem m_ifE (hc : TOk X W c ta) (ha : EOk X W a wa) (hb : EOk X W b wb) : EOk X W (.IfExp c a b pos) (wIfE ta wa wb) :=
  PE.mono (pe_ifExp hc ha hb) fun σ H Q ⟨f, sm, mh, Q', E, a, q, k⟩ => a.goT q fun f1 mh1 H1 d p x a1 q1 => by
    cases d with
    | true => exact ⟨f1, sm, mh1, Q', E, a1, q1, fun v H' z => k v H' (z.back p x)⟩
    | false => exact ⟨f1, sm, mh1, Q', E, a1, q1, fun v H' z => k v H' (z.back p x)⟩
end

/-! ### statements -/
def wNext : MTS := fun D sm h => D.nx sm h
def wSeq (t u : MTS) : MTS := fun D sm h => t { D with nx := fun sm1 h1 => u D sm1 h1 } sm h
def wBrk : MTS := fun D sm h => D.bk sm h
def wCnt : MTS := fun D sm h => D.ct sm h
def wDrop (w : MTE) : MTS := fun D sm h => w sm h (fun _ h1 => D.nx sm h1) (fun e h1 => D.xc e sm h1)
def wRet (w : MTE) : MTS := fun D sm h => w sm h D.rt (fun e h1 => D.xc e sm h1)
def wIf (t : MTT) (a b : MTS) : MTS := fun D sm h => t sm h (fun c h1 => if c = true then a D sm h1 else b D sm h1) (fun e h1 => D.xc e sm h1)
abbrev MTG := M → MS → MH → (MS → MH → Prop) → Prop
abbrev MTGs := List M → MS → MH → (MS → MH → Prop) → Prop
def liftG (K : PySem.W.Frag) (g : MTG) : TG := fun v σ H Q => ∃ f sm mh m Q', RH K f mh H ∧ RS K f H sm σ ∧ RV K f H m v ∧ g m sm mh Q' ∧ ∀ σ' H', SL K f H Q' σ' H' → Q σ' H'
def liftGs (K : PySem.W.Frag) (g : MTGs) : TGs := fun vs σ H Q => ∃ f sm mh ms Q', RH K f mh H ∧ RS K f H sm σ ∧ RVs K f H ms vs ∧ g ms sm mh Q' ∧ ∀ σ' H', SL K f H Q' σ' H' → Q σ' H'
abbrev GOk (X : Cx) (e : Expr) (g : MTG) : Prop := PG X e (liftG X.K g)
abbrev GsOk (X : Cx) (es : List Expr) (g : MTGs) : Prop := PGs X es (liftGs X.K g)
def gN (i : Nat) : MTG := fun m sm h Q => Q (sm.set i (some m)) h
def gT (n : Nat) (g : MTGs) : MTG := fun m sm h Q => ∃ xs, m = .tup xs ∧ xs.length = n ∧ g xs sm h Q
def gL (n : Nat) (g : MTGs) : MTG := fun m sm h Q => ∃ k xs, m = .ref k ∧ h[k]? = some (.lst xs) ∧ xs.length = n ∧ g xs sm h Q
def gsNil : MTGs := fun ms sm h Q => ms = [] ∧ Q sm h
def gsCons (g : MTG) (r : MTGs) : MTGs := fun ms sm h Q => ∃ m l, ms = m :: l ∧ g m sm h fun sm1 h1 => r l sm1 h1 Q
def wAsg (w : MTE) (g : MTG) : MTS := fun D sm h => w sm h (fun m h1 => g m sm h1 D.nx) (fun e h1 => D.xc e sm h1)
def wAug (i : Nat) (w : MTE) (r : MR2) : MTS := fun D sm h => ∃ m, sm[i]? = some (some m) ∧ w sm h (fun y h1 => r m y h1 fun z h2 => D.nx (sm.set i (some z)) h2) (fun e h1 => D.xc e sm h1)
section
variable {X : Cx} {W : WX} {st : Stmt} {rest : List Stmt} {t u : MTS} {e : Expr} {we : MTE} {pos : Pos}
theorem s_nil : SsOk X W [] wNext := PSs.mono pss_nil fun D σ H ⟨f, sm, mh, D', a, q⟩ => a.nx _ _ ⟨f, mh, sm, List.prefix_refl _, Ext.refl _, a.h, a.s, q⟩
theorem s_cons (h1 : SOk X W st t) (h2 : SsOk X W rest u) : SsOk X W (st :: rest) (wSeq t u) :=
  PSs.mono (pss_cons h1 h2) fun D σ H ⟨f, sm, mh, D', a, q⟩ =>
    ⟨f, sm, mh, { D' with nx := fun sm1 h1 => u D' sm1 h1 }, ⟨a.h, a.s, fun σ' H' ⟨f1, mh1, sm1, p, x, r, s, q1⟩ => ⟨f1, sm1, mh1, D', a.step p x r s, q1⟩, a.rt, a.bk, a.ct, a.xc⟩, q⟩
theorem s_one (h1 : SOk X W st t) : SsOk X W [st] t := pss_one h1
theorem s_pass : SOk X W (.Pass pos) wNext := PS.mono ps_pass fun D σ H ⟨f, sm, mh, D', a, q⟩ => a.nx _ _ ⟨f, mh, sm, List.prefix_refl _, Ext.refl _, a.h, a.s, q⟩
theorem s_break : SOk X W (.Break pos) wBrk := PS.mono ps_break fun D σ H ⟨f, sm, mh, D', a, q⟩ => a.bk _ _ ⟨f, mh, sm, List.prefix_refl _, Ext.refl _, a.h, a.s, q⟩
theorem s_cont : SOk X W (.Continue pos) wCnt := PS.mono ps_continue fun D σ H ⟨f, sm, mh, D', a, q⟩ => a.ct _ _ ⟨f, mh, sm, List.prefix_refl _, Ext.refl _, a.h, a.s, q⟩
theorem s_expr (he : EOk X W e we) (hs : swapsWith e none pos.line X.env = pure false := by rfl) : SOk X W (.Expr e pos) (wDrop we) :=
  PS.mono (ps_expr he hs) fun D σ H ⟨f, sm, mh, D', a, q⟩ => a.at.go q fun f1 mh1 H1 m v p x a1 r1 q1 => a.nx _ _ ⟨f1, mh1, sm, p, x, a1.h, a1.s, q1⟩
theorem s_ret (he : EOk X W e we) : SOk X W (.Return (some e) pos) (wRet we) :=
  PS.mono (ps_ret he) fun D σ H ⟨f, sm, mh, D', a, q⟩ => ⟨f, sm, mh, _, _, a.at, q, a.rt⟩
theorem s_if {c : Expr} {a b : List Stmt} {wc : MTT} (hc : TOk X W c wc) (ha : SsOk X W a t) (hb : SsOk X W b u) : SOk X W (.If c a b pos) (wIf wc t u) :=
  PS.mono (ps_if hc ha hb) fun D σ H ⟨f, sm, mh, D', a, q⟩ => a.at.goT q fun f1 mh1 H1 d p x a1 q1 => by
    cases d with
    | true => exact ⟨f1, sm, mh1, D', a.step p x a1.h a1.s, q1⟩
    | false => exact ⟨f1, sm, mh1, D', a.step p x a1.h a1.s, q1⟩
/-! targets -/
theorem PG.mono {t u : TG} (h : PG X e t) (i : ∀ v σ H Q, u v σ H Q → t v σ H Q) : PG X e u := ⟨fun pins s σ H v w Q I r q => h.run pins s σ H v w Q I r (i v σ H Q q)⟩
theorem PGs.mono {es : List Expr} {t u : TGs} (h : PGs X es t) (i : ∀ v σ H Q, u v σ H Q → t v σ H Q) : PGs X es u := ⟨fun pins s σ H v w Q I r q => h.run pins s σ H v w Q I r (i v σ H Q q)⟩
theorem g_name {i : Nat} {x : Str} (hN : X.N.Nodup) (hi : X.N[i]? = some x) (hx : Loc X.env.scope x) (hf : X.fn x = true ∨ X.env.scope.names.lookup x = some .local) : GOk X (.Name x pos) (gN i) :=
  PG.mono (pg_name hN hi hx hf) fun v σ H Q ⟨f, sm, mh, m, Q', r, s, rv, q, k⟩ => k _ _ ⟨f, mh, _, List.prefix_refl _, Ext.refl _, r, s.set rv, q⟩
theorem gs_nil : GsOk X [] gsNil := PGs.mono pgs_nil fun v σ H Q ⟨f, sm, mh, ms, Q', r, s, rv, ⟨e, q⟩, k⟩ => by
  subst e
  have : v = [] := rv
  subst this
  exact ⟨rfl, k _ _ ⟨f, mh, sm, List.prefix_refl _, Ext.refl _, r, s, q⟩⟩
theorem gs_cons {es : List Expr} {g : MTG} {gr : MTGs} (h1 : GOk X e g) (h2 : GsOk X es gr)
    (hs : (assignEach (e :: es) X.env).map (·.2) = assign e X.env :: (assignEach es X.env).map (·.2) := by rfl) : GsOk X (e :: es) (gsCons g gr) :=
  PGs.mono (pgs_cons h1 h2 hs) fun v σ H Q ⟨f, sm, mh, ms, Q', r, s, rv, ⟨m, l, e, q⟩, k⟩ => by
    subst e
    obtain ⟨v1, vr, rfl, r1, rr⟩ := rv
    refine ⟨v1, vr, rfl, f, sm, mh, m, _, r, s, r1, q, ?_⟩
    rintro σ1 H1 ⟨f1, mh1, sm1, p1, x1, r1, s1, q1⟩
    exact ⟨f1, sm1, mh1, l, Q', r1, s1, rr.mono p1 x1, q1, fun σ2 H2 z => k _ _ (z.back p1 x1)⟩
theorem g_tup {es : List Expr} {k : Nat} {g : MTGs} {n : Nat} (hc : X.calm = true) (h : GsOk X es g) (hn : (assignEach es X.env).length = n := by rfl) (hst : (assignEach es X.env).findIdx? (·.1) = none := by rfl) : GOk X (.Tuple es k pos) (gT n g) :=
  PG.mono (pg_tup hc h hn hst) fun v σ H Q ⟨f, sm, mh, m, Q', r, s, rv, ⟨xs, e, l, q⟩, kk⟩ => by
    subst e
    obtain ⟨a, vs, rfl, sq, rr⟩ := rv
    exact ⟨a, vs, rfl, sq, by rw [← rr.length]; exact l, f, sm, mh, xs, Q', r, s, rr, q, kk⟩
theorem g_lst {es : List Expr} {k : Nat} {g : MTGs} {n : Nat} (hc : X.calm = true) (h : GsOk X es g) (hn : (assignEach es X.env).length = n := by rfl) (hst : (assignEach es X.env).findIdx? (·.1) = none := by rfl) : GOk X (.Tuple es k pos) (gL n g) :=
  PG.mono (pg_lst hc h hn hst) fun v σ H Q ⟨f, sm, mh, m, Q', r, s, rv, ⟨j, xs, e, hj, l, q⟩, kk⟩ => by
    subst e
    obtain ⟨a, vs, rfl, ha, e1, rr⟩ := r.lst hj rv
    exact ⟨a, vs, rfl, .of e1, by rw [← rr.length]; exact l, f, sm, mh, xs, Q', r, s, rr, q, kk⟩
/-! stores -/
theorem s_set {i : Nat} {x : Str} {pos' : Pos} (hN : X.N.Nodup) (hi : X.N[i]? = some x) (hx : Loc X.env.scope x) (he : EOk X W e we) (hf : X.fn x = true ∨ X.env.scope.names.lookup x = some .local) (hs : swapsWith e (some (.Name x pos')) pos.line X.env = pure false := by rfl) : SOk X W (.Assign [.Name x pos'] e pos) (wAsg we (gN i)) :=
  PS.mono (ps_set hN hi hx he hs hf) fun D σ H ⟨f, sm, mh, D', a, q⟩ => a.at.go q fun f1 mh1 H1 m v p x a1 r1 q1 => a.nx _ _ ⟨f1, mh1, _, p, x, a1.h, a1.s.set r1, q1⟩
theorem s_asg {tg : Expr} {g : MTG} (he : EOk X W e we) (hg : GOk X tg g) (hs : swapsWithSole [tg] e pos.line X.env = pure false := by rfl) (hw : swappedStores [tg] e X.env = pure none := by rfl)
    (h1 : (assignEach [tg] X.env).map (·.2) = [assign tg X.env] := by rfl) : SOk X W (.Assign [tg] e pos) (wAsg we g) :=
  PS.mono (ps_asg he hg hs hw h1) fun D σ H ⟨f, sm, mh, D', a, q⟩ => a.at.go q fun f1 mh1 H1 m v p x a1 r1 q1 =>
    ⟨f1, sm, mh1, m, D'.nx, a1.h, a1.s, r1, q1, fun σ' H' z => a.nx _ _ (z.back p x)⟩
theorem s_aug {i : Nat} {x : Str} {op : Operator} {r : R2} {m : MR2} {pos' : Pos} (hN : X.N.Nodup) (hi : X.N[i]? = some x) (hx : Loc X.env.scope x) (he : EOk X W e we) (ho : OpR X (inplaceOp op) r) (l : L2R X.K r m) (hf : X.fn x = true ∨ X.env.scope.names.lookup x = some .local) :
    SOk X W (.AugAssign (.Name x pos') op e pos) (wAug i we m) :=
  PS.mono (ps_aug hN hi hx he (op := op) (ti := r) ho hf) fun D σ H ⟨f, sm, mh, D', a, ⟨m0, h0, q⟩⟩ =>
    let ⟨v0, e0, r0⟩ := a.s.at_ i m0 h0
    ⟨v0, e0, a.at.go q fun f1 mh1 H1 m1 v1 p x a1 r1 q1 => l f1 mh1 H1 m0 m1 v0 v1 _ _ a1.h (r0.mono p x) r1 q1 fun v H' ⟨f2, mh2, m2, p2, x2, r2, rv2, q2⟩ =>
      a.nx _ _ ⟨f2, mh2, _, p.trans p2, x.trans x2, r2, (a1.s.mono p2 x2).set rv2, q2⟩⟩
end
/-! a, b = x, y: both made, then stored -/
def wPar (i j : Nat) (wa : MTA) : MTS := fun D sm h => wa sm h (fun ms h1 => ∃ v w, ms = [v, w] ∧ D.nx ((sm.set i (some v)).set j (some w)) h1) (fun e h1 => D.xc e sm h1)
section
variable {X : Cx} {W : WX} {a b : Expr} {wa : MTA} {pos : Pos}
theorem s_par {i j : Nat} {x y : Str} {px py pt : Pos} {kt k2 pt2} (hc : X.calm = true) (hN : X.N.Nodup) (hi : X.N[i]? = some x) (hj : X.N[j]? = some y) (hij : i ≠ j)
    (hx : X.env.scope.names.lookup x = some .local) (hy : X.env.scope.names.lookup y = some .local) (ha : AOk X W [a, b] wa)
    (hw : swappedStores [.Tuple [.Name x px, .Name y py] kt pt] (.Tuple [a, b] k2 pt2) X.env = pure (some [x, y]))
    (hs : swapsWithSole [.Tuple [.Name x px, .Name y py] kt pt] (.Tuple [a, b] k2 pt2) pos.line X.env = pure false := by rfl) :
    SOk X W (.Assign [.Tuple [.Name x px, .Name y py] kt pt] (.Tuple [a, b] k2 pt2) pos) (wPar i j wa) :=
  PS.mono (ps_par hc hN hi hj hij hx hy ha hw hs) fun D σ H ⟨f, sm, mh, D', a, q⟩ => a.at.goA q fun f1 mh1 H1 ms vs p x a1 r1 ⟨v, w, e, q1⟩ => by
    subst e
    obtain ⟨v1, r, rfl, rv, w1, r', rfl, rw', e'⟩ := r1
    have : r' = [] := e'
    subst this
    exact ⟨v1, w1, rfl, a.nx _ _ ⟨f1, mh1, _, p, x, a1.h, (a1.s.set rv).set rw', q1⟩⟩
end

/-! ### while -/
def wIter (wc : MTT) (wb : MTS) : Nat → MTS
  | 0 => fun _ _ _ => False
  | n + 1 => fun D sm h => wc sm h (fun b h1 => if b = true then wb { D with nx := wIter wc wb n D, ct := wIter wc wb n D, bk := D.nx } sm h1 else D.nx sm h1) (fun e h1 => D.xc e sm h1)
def wWhile (wc : MTT) (wb : MTS) : MTS := fun D sm h => ∃ n, wIter wc wb n D sm h
section
variable {X : Cx} {W : WX} {k : Nat} {pos : Pos}
theorem s_while {c : Expr} {body : List Stmt} {wc : MTT} {wb : MTS} (cm : CM X W k) (hc : TOk X W c wc) (hb : SsOk X W body wb) : SOk X W (.While c body [] pos) (wWhile wc wb) :=
  PS.mono (ps_while cm.po hc hb) fun D σ H ⟨f, sm, mh, D', a, ⟨n, q⟩⟩ => by
    refine ⟨fun m σ H => ∃ f sm mh, AtS X.K W D f sm mh σ H D' ∧ wIter wc wb m D' sm mh, ⟨n, f, sm, mh, a, q⟩, ?_⟩
    rintro m σ H ⟨f, sm, mh, a, q⟩
    cases m with
    | zero => exact q.elim
    | succ m =>
      refine a.at.goT q fun f1 mh1 H1 d p x a1 q1 => ?_
      have b1 := a.step p x a1.h a1.s
      cases d with
      | false => exact b1.nx _ _ ⟨f1, mh1, sm, List.prefix_refl _, Ext.refl _, a1.h, a1.s, q1⟩
      | true =>
        rw [if_pos rfl] at q1
        rw [if_pos rfl]
        refine ⟨fun σ' H' => ∃ f sm mh, AtS X.K W D f sm mh σ' H' D' ∧ wIter wc wb m D' sm mh, fun σ' H' z => ⟨m, Nat.lt_succ_self _, z⟩, f1, sm, mh1, { D' with nx := wIter wc wb m D', ct := wIter wc wb m D', bk := D'.nx }, ⟨b1.h, b1.s, ?_, b1.rt, b1.nx, ?_, b1.xc⟩, q1⟩
        · rintro σ' H' ⟨f2, mh2, sm2, p2, x2, r2, s2, q2⟩
          exact ⟨f2, sm2, mh2, b1.step p2 x2 r2 s2, q2⟩
        · rintro σ' H' ⟨f2, mh2, sm2, p2, x2, r2, s2, q2⟩
          exact ⟨f2, sm2, mh2, b1.step p2 x2 r2 s2, q2⟩
end

/-! ### for -/
abbrev MTI := MS → MH → (List M → (MH → Prop) → MH → Prop) → KM → Prop
/-- J walks the items, while chk holds of the small heap -/
def Goes (K : PySem.W.Frag) (J : It) (f : List Addr) (H : Hp) (items : List M) (chk : MH → Prop) : Prop :=
  ∀ f1 mh1 H1, f <+: f1 → Ext H H1 → RH K f1 mh1 H1 → chk mh1 →
    (∀ i m, items[i]? = some m → J.go i H1 ∧ ∀ x H2, J.yld i H1 x H2 → RH K f1 mh1 H2 ∧ Ext H1 H2 ∧ RV K f1 H2 m x) ∧ ∀ i, items.length = i → J.stop i H1
def IL (K : PySem.W.Frag) (f : List Addr) (H : Hp) (Q : List M → (MH → Prop) → MH → Prop) (J : It) (H' : Hp) : Prop :=
  ∃ f' mh' items chk, f <+: f' ∧ Ext H H' ∧ RH K f' mh' H' ∧ Goes K J f' H' items chk ∧ Q items chk mh'
def liftI (K : PySem.W.Frag) (W : WX) (w : MTI) : TI := fun σ H R => ∃ f sm mh Q' E, At K W f sm mh σ H E ∧ w sm mh Q' E ∧ ∀ J H', IL K f H Q' J H' → R J H'
abbrev IOk (X : Cx) (W : WX) (tg iter : Expr) (w : MTI) : Prop := PI X tg iter (liftI X.K W w)
theorem PI.mono {X : Cx} {tg iter : Expr} {t u : TI} (h : PI X tg iter t) (i : ∀ σ H Q, u σ H Q → t σ H Q) : PI X tg iter u := ⟨fun pins s σ H Q I q => h.run pins s σ H Q I (i σ H Q q)⟩
def wLoop (chk : MH → Prop) (g : MTG) (wb : MTS) : List M → MTS
  | [] => fun D sm h => chk h ∧ D.nx sm h
  | m :: r => fun D sm h => chk h ∧ g m sm h fun sm1 h1 => wb { D with nx := wLoop chk g wb r D, ct := wLoop chk g wb r D, bk := D.nx } sm1 h1
def wFor (wi : MTI) (g : MTG) (wb : MTS) : MTS := fun D sm h => wi sm h (fun items chk h1 => wLoop chk g wb items D sm h1) (fun e h1 => D.xc e sm h1)
section
variable {X : Cx} {W : WX} {k : Nat} {pos : Pos}
theorem s_for {tg iter : Expr} {body : List Stmt} {wi : MTI} {g : MTG} {wb : MTS} (cm : CM X W k) (hi : IOk X W tg iter wi) (hg : GOk X tg g) (hb : SsOk X W body wb) (hs : ∀ x, foldedSetIterable iter X.env x = pure x := by intro _; rfl) :
    SOk X W (.For tg iter body [] pos) (wFor wi g wb) :=
  PS.mono (ps_for cm.po cm.calm hi hg hb hs) fun D σ H ⟨f, sm, mh, D', a, q⟩ => by
    refine ⟨f, sm, mh, _, _, a.at, q, ?_⟩
    rintro J H1 ⟨f1, mh1, items, chk, p1, x1, r1, gs, q1⟩
    have b1 := a.step p1 x1 r1 (a.s.mono p1 x1)
    refine ⟨fun i m σ H => ∃ f sm mh, AtS X.K W D f sm mh σ H D' ∧ f1 <+: f ∧ Ext H1 H ∧ m = items.length - i ∧ i ≤ items.length ∧ wLoop chk g wb (items.drop i) D' sm mh, ⟨items.length, f1, sm, mh1, b1, List.prefix_refl _, Ext.refl _, rfl, Nat.zero_le _, q1⟩, ?_⟩
    rintro i m σ H ⟨f2, sm2, mh2, a2, p2, x2, e, hi, q2⟩
    by_cases hlt : i < items.length
    · have ed : items.drop i = items[i] :: items.drop (i + 1) := List.drop_eq_getElem_cons hlt
      rw [ed] at q2
      obtain ⟨hc, q2⟩ := q2
      obtain ⟨go, yl⟩ := (gs f2 mh2 H p2 x2 a2.h hc).1 i items[i] (by simp)
      refine .inr ⟨go, fun σ' H' => ∃ f sm mh, AtS X.K W D f sm mh σ' H' D' ∧ f1 <+: f ∧ Ext H1 H' ∧ wLoop chk g wb (items.drop (i + 1)) D' sm mh, ?_, ?_⟩
      · rintro σ' H' ⟨f, sm, mh, z1, z2, z3, z4⟩
        exact ⟨items.length - (i + 1), by omega, f, sm, mh, z1, z2, z3, rfl, hlt, z4⟩
      · intro x H' y
        obtain ⟨r3, x3, rv3⟩ := yl x H' y
        refine ⟨f2, sm2, mh2, items[i], _, r3, a2.s.mono (List.prefix_refl _) x3, rv3, q2, ?_⟩
        rintro σ4 H4 ⟨f4, mh4, sm4, p4, x4, r4, s4, q4⟩
        have a4 := (a2.step (List.prefix_refl _) x3 r3 (a2.s.mono (List.prefix_refl _) x3)).step p4 x4 r4 s4
        have pp : f1 <+: f4 := p2.trans p4
        have xx : Ext H1 H4 := (x2.trans x3).trans x4
        refine ⟨f4, sm4, mh4, { D' with nx := wLoop chk g wb (items.drop (i + 1)) D', ct := wLoop chk g wb (items.drop (i + 1)) D', bk := D'.nx }, ⟨a4.h, a4.s, ?_, a4.rt, a4.nx, ?_, a4.xc⟩, q4⟩
        · rintro σ5 H5 ⟨f5, mh5, sm5, p5, x5, r5, s5, q5⟩
          exact ⟨f5, sm5, mh5, a4.step p5 x5 r5 s5, pp.trans p5, xx.trans x5, q5⟩
        · rintro σ5 H5 ⟨f5, mh5, sm5, p5, x5, r5, s5, q5⟩
          exact ⟨f5, sm5, mh5, a4.step p5 x5 r5 s5, pp.trans p5, xx.trans x5, q5⟩
    · have e2 : i = items.length := by omega
      subst e2
      rw [List.drop_length] at q2
      obtain ⟨hc, q2⟩ := q2
      exact .inl ⟨(gs f2 mh2 H p2 x2 a2.h hc).2 _ rfl, a2.nx _ _ ⟨f2, mh2, sm2, List.prefix_refl _, Ext.refl _, a2.h, a2.s, q2⟩⟩
/-! what is walked -/
def iSeq (w : MTE) : MTI := fun sm h Q E => w sm h (fun m h1 => match m with
  | .tup xs => Q xs (fun _ => True) h1
  | .ref n => (∃ xs, h1[n]? = some (.lst xs) ∧ Q xs (fun h => h[n]? = some (.lst xs)) h1) ∨ (∃ xs, h1[n]? = some (.rol xs) ∧ Q xs (fun h => h[n]? = some (.rol xs)) h1)
  | _ => False) E
theorem sqL_inj {K : PySem.W.Frag} {H : Hp} {a : Addr} {xs ys : List V} (h : H a = some (.lst xs)) (k : SqL K H a ys) (hk : K.lookup a = none) : ys = xs := by
  rcases k with (k | ⟨o, k⟩) | ⟨o, its, n, l, _⟩
  · rw [h] at k; cases k; rfl
  · rw [h] at k; cases k
  · rw [hk] at l; cases l
end
end Mn
end
section
set_option maxHeartbeats 2000000
namespace Mn
open PySem PySem.Spec PyProof.Rows L2

/-! ### a list or a tuple -/
section
variable {X : Cx} {W : WX} {tg : Expr} {pos p : Pos}
theorem pi_seqA {l : Expr} {tl : TE} (hl : PE X l tl) : PI X tg l (fun σ H R => tl σ H fun x H1 => (∃ a, x = .ref a ∧ (∃ xs, SqL X.K H1 a xs) ∧ R (Itl X.K a) H1) ∨ (∃ a, x = .ref a ∧ (∃ xs, SqT X.K H1 a xs) ∧ R (Itt X.K a) H1)) := by
  refine ⟨fun pins s σ H R I h => ?_⟩
  refine thn (hl.run pins s σ H _ I h) fun v s1 ⟨x, H1, I1, r1, q1⟩ => ?_
  rcases q1 with ⟨a, e, ⟨xs, hq⟩, q⟩ | ⟨a, e, ⟨xs, hq⟩, q⟩
  · subst e
    cases r1
    obtain ⟨its, rv, p, hz⟩ := I1.list hq
    refine wpAny_pyIter_list p.isList ?_
    refine ⟨s1.heap.objs.size, [s1.heap.objs.size], _, _, H1, rfl, I1.kept (t' := s1.toks) fun b o e => Heap.get?_push_of_some _ e, turn_list a _, ⟨_, Heap.get?_push_size _ rfl, rfl, rfl⟩, fun b hb => ?_, q⟩
    have e : b = s1.heap.objs.size := by simpa using hb
    subst e
    exact I1.fpOk (Nat.le_refl _) (I1.hok.fresh (Nat.le_refl _))
  · subst e
    cases r1
    obtain ⟨its, rv, p, hz⟩ := I1.tuple hq
    refine wpAny_pyIter_tuple (show s1.heap.IsTuple a its.toArray from p) ?_
    refine ⟨s1.heap.objs.size, [s1.heap.objs.size], _, _, H1, rfl, I1.kept (t' := s1.toks) fun b o e => Heap.get?_push_of_some _ e, turn_tuple a _, ⟨_, Heap.get?_push_size _ rfl, rfl, rfl⟩, fun b hb => ?_, q⟩
    have e : b = s1.heap.objs.size := by simpa using hb
    subst e
    exact I1.fpOk (Nat.le_refl _) (I1.hok.fresh (Nat.le_refl _))
end
/-- where the items of a sequence stand -/
inductive Src where
  | l (a : Addr)
  | t (a : Addr)
def Src.a : Src → Addr
  | .l a => a
  | .t a => a
def SrcIs (K : PySem.W.Frag) (H : Hp) : Src → List V → Prop
  | .l a, xs => Rd H a (.lst xs)
  | .t a, xs => SqT K H a xs
/-- the small world's items and what checks that they stand -/
def SeqM (h : MH) (m : M) (xs : List M) (chk : MH → Prop) : Prop := match m with
  | .tup ys => ys = xs ∧ chk = fun _ => True
  | .ref n => (h[n]? = some (.lst xs) ∧ chk = fun h => h[n]? = some (.lst xs)) ∨ (h[n]? = some (.rol xs) ∧ chk = fun h => h[n]? = some (.rol xs))
  | _ => False
theorem rd_inj {H : Hp} {a : Addr} {xs ys : List V} (h : Rd H a (.lst xs)) (k : Rd H a (.lst ys)) : ys = xs := by
  rcases h with h | ⟨o, h⟩ <;> rcases k with k | ⟨u, k⟩ <;> rw [h] at k <;> cases k <;> rfl
section
variable {K : PySem.W.Frag} {f : List Addr} {mh : MH} {H : Hp}
/-- from the small world: the source, its items, and that it stands as long as chk -/
theorem seq_src (r : RH K f mh H) {m : M} {v : V} (rv : RV K f H m v) {xs : List M} {chk : MH → Prop} (h : SeqM mh m xs chk) :
    chk mh ∧ ∃ src, v = .ref src.a ∧ ∀ f1 mh1 H1, f <+: f1 → Ext H H1 → RH K f1 mh1 H1 → chk mh1 → ∃ vs, SrcIs K H1 src vs ∧ RVs K f1 H1 xs vs := by
  cases m with
  | tup ys =>
    obtain ⟨rfl, rfl⟩ := h
    obtain ⟨a, vs, rfl, s, rr⟩ := rv
    exact ⟨trivial, .t a, rfl, fun f1 mh1 H1 p x r1 _ => ⟨vs, SqT.ext s x, rr.mono p x⟩⟩
  | ref n =>
    rcases h with ⟨h, rfl⟩ | ⟨h, rfl⟩
    · obtain ⟨a, e, ha⟩ := rv
      refine ⟨h, .l a, e, fun f1 mh1 H1 p x r1 hc => ?_⟩
      obtain ⟨b, hb, vs, e1, rr⟩ := r1.at hc
      rw [get_pre p ha] at hb; cases hb
      exact ⟨vs, .inl e1, rr⟩
    · obtain ⟨a, e, ha⟩ := rv
      refine ⟨h, .l a, e, fun f1 mh1 H1 p x r1 hc => ?_⟩
      obtain ⟨b, hb, o, vs, e1, rr⟩ := r1.at hc
      rw [get_pre p ha] at hb; cases hb
      exact ⟨vs, .inr ⟨o, e1⟩, rr⟩
  | _ => exact h.elim
theorem SqL.of_rd {a : Addr} {xs : List V} (h : Rd H a (.lst xs)) : SqL K H a xs := .inl h
end
/-- over an expression that is a list or a tuple -/
def wSeqI (w : MTE) : MTI := fun sm h Q E => w sm h (fun m h1 => ∃ xs chk, SeqM h1 m xs chk ∧ Q xs chk h1) E
section
variable {X : Cx} {W : WX} {tg : Expr} {pos p : Pos}
theorem sqL_rd {pins : List (Addr × Obj)} {σ : L2.St} {H : Hp} {s : Shared} (I : Inv X pins σ H s) {a : Addr} {xs ys : List V} (h : Rd H a (.lst xs)) (k : SqL X.K H a ys) : ys = xs := I.list_inj k (.inl h)
/-- what a list's iterator yields, where the list is tracked -/
theorem yl_list {K : PySem.W.Frag} {a : Addr} {H H2 : Hp} {i : Nat} {x : V} {xs : List V} (h : Rd H a (.lst xs)) (y : (Itl K a).yld i H x H2) : H2 = H ∧ xs[i]? = some x := ⟨y.1, y.2 xs (.inl h)⟩
theorem i_seq {l : Expr} {wl : MTE} (hl : EOk X W l wl) : IOk X W tg l (wSeqI wl) :=
  PI.mono (pi_seqA hl) fun σ H R ⟨f, sm, mh, Q', E, a, q, k⟩ => a.go q fun f1 mh1 H1 m v p x a1 r1 ⟨xs, chk, hs, q1⟩ => by
    obtain ⟨hc, src, e, hsrc⟩ := seq_src a1.h r1 hs
    subst e
    cases src with
    | l b =>
      obtain ⟨vs, h1, _⟩ := hsrc f1 mh1 H1 (List.prefix_refl _) (Ext.refl _) a1.h hc
      refine .inl ⟨b, rfl, ⟨vs, .inl h1⟩, k _ _ ⟨f1, mh1, xs, chk, p, x, a1.h, fun f2 mh2 H2 p2 x2 r2 hc2 => ?_, q1⟩⟩
      obtain ⟨vs2, h2, rr⟩ := hsrc f2 mh2 H2 p2 x2 r2 hc2
      refine ⟨fun i m hm => ?_, fun i hi => ⟨vs2, .inl h2, by rw [← rr.length]; exact Nat.le_of_eq hi⟩⟩
      obtain ⟨v, hv, rv⟩ := rr.get hm
      refine ⟨⟨vs2, v, .inl h2, hv⟩, fun y H3 hy => ?_⟩
      obtain ⟨e3, e4⟩ := yl_list h2 hy
      subst e3
      rw [hv] at e4; cases e4
      exact ⟨r2, Ext.refl _, rv⟩
    | t b =>
      obtain ⟨vs, h1, _⟩ := hsrc f1 mh1 H1 (List.prefix_refl _) (Ext.refl _) a1.h hc
      refine .inr ⟨b, rfl, ⟨vs, h1⟩, k _ _ ⟨f1, mh1, xs, chk, p, x, a1.h, fun f2 mh2 H2 p2 x2 r2 hc2 => ?_, q1⟩⟩
      obtain ⟨vs2, h2, rr⟩ := hsrc f2 mh2 H2 p2 x2 r2 hc2
      refine ⟨fun i m hm => ?_, fun i hi => ⟨vs2, h2, by rw [← rr.length]; exact Nat.le_of_eq hi⟩⟩
      obtain ⟨v, hv, rv⟩ := rr.get hm
      refine ⟨⟨vs2, v, h2, hv⟩, fun y H3 hy => ?_⟩
      obtain ⟨rfl, hy⟩ := hy
      have := hy vs2 h2
      rw [hv] at this; cases this
      exact ⟨r2, Ext.refl _, rv⟩
/-! range -/
def rngM (lo : Int) (n : Nat) : List M := (List.range n).map fun (i : Nat) => M.int (lo + i)
theorem goes_rng {K : PySem.W.Frag} {f : List Addr} {H : Hp} (lo : Int) (n : Nat) : Goes K (Itr lo n) f H (rngM lo n) (fun _ => True) := by
  intro f1 mh1 H1 p x r _
  refine ⟨fun i m hm => ?_, fun i hi => (show n ≤ i from Nat.le_of_eq (by simpa [rngM] using hi))⟩
  unfold rngM at hm
  rw [List.getElem?_map] at hm
  cases q : (List.range n)[i]? with
  | none => rw [q] at hm; cases hm
  | some j =>
    rw [q] at hm
    have hi : i < n := by have := (List.getElem?_eq_some_iff.mp q).1; simpa using this
    have hj : j = i := by rw [List.getElem?_range hi] at q; cases q; rfl
    subst hj
    have e : m = .int (lo + j) := by simpa using hm.symm
    subst e
    refine ⟨hi, ?_⟩
    rintro y H2 ⟨rfl, rfl⟩
    exact ⟨r, Ext.refl _, rfl⟩
def RgOk (i : Int) : Prop := -(2 ^ 62) ≤ i ∧ i < 2 ^ 62
def rngQ1 (Q : List M → (MH → Prop) → MH → Prop) (ms : List M) (h : MH) : Prop := match ms with
  | [.int j] => RgOk j ∧ Q (rngM 0 j.toNat) (fun _ => True) h
  | _ => False
def rngQ2 (Q : List M → (MH → Prop) → MH → Prop) (ms : List M) (h : MH) : Prop := match ms with
  | [.int i, .int j] => RgOk i ∧ RgOk j ∧ Q (rngM i (j - i).toNat) (fun _ => True) h
  | _ => False
theorem rngQ1_inv {Q : List M → (MH → Prop) → MH → Prop} {ms : List M} {h : MH} (q : rngQ1 Q ms h) : ∃ j, ms = [.int j] ∧ RgOk j ∧ Q (rngM 0 j.toNat) (fun _ => True) h := by
  unfold rngQ1 at q; split at q
  · exact ⟨_, rfl, q⟩
  · exact q.elim
theorem rngQ2_inv {Q : List M → (MH → Prop) → MH → Prop} {ms : List M} {h : MH} (q : rngQ2 Q ms h) : ∃ i j, ms = [.int i, .int j] ∧ RgOk i ∧ RgOk j ∧ Q (rngM i (j - i).toNat) (fun _ => True) h := by
  unfold rngQ2 at q; split at q
  · exact ⟨_, _, rfl, q⟩
  · exact q.elim
def wRng1 (wa : MTA) : MTI := fun sm h Q E => wa sm h (rngQ1 Q) E
def wRng2 (wa : MTA) : MTI := fun sm h Q E => wa sm h (rngQ2 Q) E
theorem i_rng1 {a : Expr} {wa : MTA} (hg : Gl X "range") (hm : X.mg "range" = none) (ha : AOk X W [a] wa) (hs : starEach [a] X.env = [(false, eval a X.env)] := by rfl) : IOk X W tg (.Call (.Name "range" p) [a] [] pos) (wRng1 wa) :=
  PI.mono (pi_range1 hg hm ha hs) fun σ H R ⟨f, sm, mh, Q', E, a, q, k⟩ => a.goA q fun f1 mh1 H1 ms vs p x a1 r1 q1 => by
    obtain ⟨j, rfl, hj, q2⟩ := rngQ1_inv q1
    obtain ⟨v, r, rfl, rv, rn⟩ := r1
    have e1 : v = .int j := rv
    have e2 : r = [] := rn
    subst e1 e2
    exact ⟨j, rfl, hj.1, hj.2, k _ _ ⟨f1, mh1, _, _, p, x, a1.h, goes_rng 0 _, q2⟩⟩
theorem i_rng2 {a b : Expr} {wa : MTA} (hg : Gl X "range") (hm : X.mg "range" = none) (ha : AOk X W [a, b] wa) (hs : starEach [a, b] X.env = [(false, eval a X.env), (false, eval b X.env)] := by rfl) (hs2 : starEach [b] X.env = [(false, eval b X.env)] := by rfl) : IOk X W tg (.Call (.Name "range" p) [a, b] [] pos) (wRng2 wa) :=
  PI.mono (pi_range2 hg hm ha hs hs2) fun σ H R ⟨f, sm, mh, Q', E, a, q, k⟩ => a.goA q fun f1 mh1 H1 ms vs p x a1 r1 q1 => by
    obtain ⟨i, j, rfl, hi, hj, q2⟩ := rngQ2_inv q1
    obtain ⟨v, r, rfl, rv, v2, r2, rfl, rv2, rn⟩ := r1
    have e1 : v = .int i := rv
    have e2 : v2 = .int j := rv2
    have e3 : r2 = [] := rn
    subst e1 e2 e3
    exact ⟨i, j, rfl, ⟨hi.1, hi.2, hj.1, hj.2⟩, k _ _ ⟨f1, mh1, _, _, p, x, a1.h, goes_rng i _, q2⟩⟩
end
end Mn
end
section
set_option maxHeartbeats 2000000
namespace Mn
open PySem PySem.Spec PyProof.Rows L2

/-! ### targets that are names -/
inductive Tg where
  | one (i : Nat)
  | tup (is : List Nat)
def Tg.is : Tg → List Nat
  | .one i => [i]
  | .tup is => is
def setM {α : Type} (sm : List (Option α)) : List Nat → List α → List (Option α)
  | i :: is, m :: ms => setM (sm.set i (some m)) is ms
  | _, _ => sm
def gsN : List Nat → TGs
  | [] => gNil
  | i :: r => gCons (gName i) (gsN r)
theorem gsN_go : ∀ {is : List Nat} {vs : List V} {σ : L2.St} {H : Hp} {Q : L2.St → Hp → Prop}, vs.length = is.length → Q (setM σ is vs) H → gsN is vs σ H Q
  | [], [], _, _, _, _, q => ⟨rfl, q⟩
  | [], _ :: _, _, _, _, l, _ => by simp at l
  | _ :: _, [], _, _, _, l, _ => by simp at l
  | i :: is, v :: vs, σ, H, Q, l, q => ⟨v, vs, rfl, gsN_go (is := is) (vs := vs) (by simpa using l) q⟩
def tgV (K : PySem.W.Frag) : Tg → TG
  | .one i => gName i
  | .tup is => gTup K is.length (gsN is)
def tgM : Tg → MTG
  | .one i => gN i
  | .tup is => fun m sm h Q => ∃ xs, m = .tup xs ∧ xs.length = is.length ∧ Q (setM sm is xs) h
def wipeM (sm : MS) : List Nat → MS
  | [] => sm
  | v :: vs => (wipeM sm vs).set v none
section
variable {K : PySem.W.Frag} {f : List Addr} {H : Hp}
theorem wipe_rel {sm : MS} {σ : L2.St} (r : RS K f H sm σ) : ∀ vs : List Nat, RS K f H (wipeM sm vs) (wipe σ vs)
  | [] => r
  | v :: vs => (wipe_rel r vs).unset
theorem setM_rel : ∀ {is : List Nat} {ms : List M} {vs : List V} {sm : MS} {σ : L2.St}, RS K f H sm σ → RVs K f H ms vs → RS K f H (setM sm is ms) (setM σ is vs)
  | [], _, _, _, _, r, _ => by unfold setM; exact r
  | _ :: _, [], vs, _, _, r, h => by cases h; exact r
  | i :: is, m :: ms, _, _, _, r, ⟨v, vs, e, h, t⟩ => by subst e; exact setM_rel (is := is) (r.set h) t
end
theorem wipe_set {σ : L2.St} {i : Nat} {x : Option V} : ∀ {vs : List Nat}, i ∈ vs → wipe (σ.set i x) vs = wipe σ vs
  | [], h => by simp at h
  | v :: vs, h => by
    unfold wipe
    by_cases e : i ∈ vs
    · rw [wipe_set e]
    · have e2 : v = i := by simpa [e, eq_comm] using h
      subst e2
      have : ∀ (ws : List Nat), v ∉ ws → (wipe (σ.set v x) ws).set v none = (wipe σ ws).set v none := by
        intro ws
        induction ws with
        | nil => intro _; unfold wipe; simp
        | cons u us ih =>
          intro hu
          simp at hu
          unfold wipe
          rw [List.set_comm _ _ (Ne.symm hu.1), ih hu.2, List.set_comm _ _ hu.1]
      exact this vs e
theorem wipe_setM : ∀ {is : List Nat} {xs : List V} {σ : L2.St} {vs : List Nat}, (∀ i ∈ is, i ∈ vs) → wipe (setM σ is xs) vs = wipe σ vs
  | [], _, _, _, _ => by unfold setM; rfl
  | _ :: _, [], _, _, _ => rfl
  | i :: is, x :: xs, σ, vs, h => by
    show wipe (setM (σ.set i (some x)) is xs) vs = _
    rw [wipe_setM (fun j hj => h j (by simp [hj])), wipe_set (h i (by simp))]
theorem wipe_idem {σ : L2.St} : ∀ {vs us : List Nat}, (∀ i ∈ us, i ∈ vs) → wipe (wipe σ us) vs = wipe σ vs
  | vs, [], _ => rfl
  | vs, u :: us, h => by
    show wipe ((wipe σ us).set u none) vs = _
    rw [wipe_set (h u (by simp)), wipe_idem fun j hj => h j (by simp [hj])]

/-! ### a comprehension -/
abbrev W0 : WX := fun _ _ _ _ => False
def FK : KM := fun _ _ => False
/-- over the items: D the list that grows, acc what it holds -/
def cLoop (chk : MH → Prop) (g : MTG) (wt : MTT) (we : MTE) (sm : MS) (D : Nat) (Q : List M → MH → Prop) : List M → List M → MH → Prop
  | [], acc, h => chk h ∧ h[D]? = some (.lst acc) ∧ Q acc h
  | m :: r, acc, h => chk h ∧ g m sm h fun sm2 h2 => wt sm2 h2 (fun b h3 =>
      if b = true then we sm2 h3 (fun y h4 => h4[D]? = some (.lst acc) ∧ acc.length < SZ ∧ cLoop chk g wt we sm D Q r (acc ++ [y]) (h4.set D (.lst (acc ++ [y])))) FK
      else cLoop chk g wt we sm D Q r acc h3) FK
def wComp (wi : MTI) (tg : Tg) (wt : MTT) (we : MTE) (vs : List Nat) : MTE := fun sm h Q E => wi sm h (fun items chk h1 => cLoop chk (tgM tg) wt we (wipeM sm vs) h1.length (fun _ h2 => Q (.ref h1.length) h2) items [] (h1 ++ [.lst []])) E
def wYes : MTT := fun _ h Q _ => Q true h
section
variable {X : Cx} {W : WX}
abbrev TsOk (X : Cx) (ifs : List Expr) (w : MTT) : Prop := PTs X ifs (liftT X.K W0 w)
theorem ts_nil : TsOk X [] wYes := ⟨fun pins s σ H Q I ⟨f, sm, mh, Q', E, a, q, k⟩ => pts_nil.run pins s σ H Q I (k _ _ ⟨f, mh, List.prefix_refl _, Ext.refl _, a.h, q⟩)⟩
theorem ts_one {c : Expr} {w : MTT} (h : TOk X W0 c w) : TsOk X [c] w := pts_one h
/-- in the block of a comprehension -/
theorem cm_blk {k : Nat} (c : CM X W k) (s : Shared) (H : Hp) (scope : Scope) (cenv : Env) (fp : List Addr) : CM (X.blk s H scope cenv fp) W0 k where
  calm := c.calm
  tk := LamX.takes0
  po := .never
  rm := c.rm
  sm := c.sm
  nd := c.nd
theorem comp_rd {K : PySem.W.Frag} {tg : Tg} {wt : MTT} {we : MTE} {vs : List Nat} (hv : ∀ i ∈ tg.is, i ∈ vs) {wi : MTI} {σ : L2.St} {H : Hp} {Q : VK} (h : liftE K W (wComp wi tg wt we vs) σ H Q) :
    tLc (liftI K W wi) (tgV K tg) (liftT K W0 wt) (liftE K W0 we) vs σ H Q := by
  obtain ⟨f, sm, mh, Q', E, a, q, k⟩ := h
  refine ⟨f, sm, mh, _, E, a, q, ?_⟩
  rintro J H1 ⟨f1, mh1, items, chk, p1, x1, r1, gs, q1⟩ D hD
  have x2 : Ext H1 (upd H1 D (.lst [])) := Ext.new hD
  have p2 : f1 <+: f1 ++ [D] := List.prefix_append _ _
  have r2 : RH K (f1 ++ [D]) (mh1 ++ [.lst []]) (upd H1 D (.lst [])) := r1.alloc (o := .lst []) hD ⟨[], upd_same, rfl⟩
  have hDi : (f1 ++ [D])[mh1.length]? = some D := by rw [← r1.len, List.getElem?_append_right (Nat.le_refl _)]; simp
  have s1 : RS K f1 H1 sm σ := a.s.mono p1 x1
  refine ⟨fun i m H => ∃ f mh acc, RH K f mh H ∧ f1 ++ [D] <+: f ∧ Ext H1 H ∧ m = items.length - i ∧ i ≤ items.length ∧ cLoop chk (tgM tg) wt we (wipeM sm vs) mh1.length (fun _ h2 => Q' (.ref mh1.length) h2) (items.drop i) acc mh,
    ⟨items.length, f1 ++ [D], mh1 ++ [.lst []], [], r2, List.prefix_refl _, x2, rfl, Nat.zero_le _, by rw [List.drop_zero]; exact q1⟩, ?_⟩
  rintro i m H2 ⟨f2, mh2, acc, r2, p2', x2', e, hi, q2⟩
  have pf : f1 <+: f2 := p2.trans p2'
  by_cases hlt : i < items.length
  · rw [List.drop_eq_getElem_cons hlt] at q2
    obtain ⟨hc, q2⟩ := q2
    obtain ⟨go, yl⟩ := (gs f2 mh2 H2 pf x2' r2 hc).1 i items[i] (by simp)
    refine .inr ⟨go, fun H' => ∃ f mh acc, RH K f mh H' ∧ f1 ++ [D] <+: f ∧ Ext H1 H' ∧ cLoop chk (tgM tg) wt we (wipeM sm vs) mh1.length (fun _ h2 => Q' (.ref mh1.length) h2) (items.drop (i + 1)) acc mh, ?_, ?_⟩
    · rintro H' ⟨f, mh, acc, z1, z2, z3, z4⟩
      exact ⟨items.length - (i + 1), by omega, f, mh, acc, z1, z2, z3, rfl, hlt, z4⟩
    · intro x H3 y
      obtain ⟨r3, x3, rv3⟩ := yl x H3 y
      have s3 : RS K f2 H3 (wipeM sm vs) (wipe σ vs) := wipe_rel ((s1.mono pf x2').mono (List.prefix_refl _) x3) vs
      have rest : ∀ (sm2 : MS) (σ2 : L2.St), wipe σ2 vs = wipe σ vs → RS K f2 H3 sm2 σ2 →
          wt sm2 mh2 (fun b h3 => if b = true then we sm2 h3 (fun y h4 => h4[mh1.length]? = some (.lst acc) ∧ acc.length < SZ ∧ cLoop chk (tgM tg) wt we (wipeM sm vs) mh1.length (fun _ h2 => Q' (.ref mh1.length) h2) (items.drop (i + 1)) (acc ++ [y]) (h4.set mh1.length (.lst (acc ++ [y])))) FK
            else cLoop chk (tgM tg) wt we (wipeM sm vs) mh1.length (fun _ h2 => Q' (.ref mh1.length) h2) (items.drop (i + 1)) acc h3) FK →
          wipe σ2 vs = wipe σ vs ∧ liftT K W0 wt σ2 H3 fun b H4 => if b = true then liftE K W0 we σ2 H4 fun y H5 => ∃ acc, H5 D = some (.lst acc) ∧ acc.length < sizeLine ∧
            (∃ f mh acc', RH K f mh (upd H5 D (.lst (acc ++ [y]))) ∧ f1 ++ [D] <+: f ∧ Ext H1 (upd H5 D (.lst (acc ++ [y]))) ∧ cLoop chk (tgM tg) wt we (wipeM sm vs) mh1.length (fun _ h2 => Q' (.ref mh1.length) h2) (items.drop (i + 1)) acc' mh)
            else ∃ f mh acc, RH K f mh H4 ∧ f1 ++ [D] <+: f ∧ Ext H1 H4 ∧ cLoop chk (tgM tg) wt we (wipeM sm vs) mh1.length (fun _ h2 => Q' (.ref mh1.length) h2) (items.drop (i + 1)) acc mh := by
        intro sm2 σ2 ew s2 q3
        refine ⟨ew, ?_⟩
        have a3 : At K W0 f2 sm2 mh2 σ2 H3 FK := ⟨r3, s2, fun cls d H' ⟨f', mh', C, ks, ms, us, dx, _, _, _, _, _, _, _, _, z⟩ => z⟩
        refine a3.goT q3 fun f4 mh4 H4 b p4 x4 a4 q4 => ?_
        cases b with
        | false => exact ⟨f4, mh4, acc, a4.h, p2'.trans p4, (x2'.trans x3).trans x4, q4⟩
        | true =>
          rw [if_pos rfl] at q4
          rw [if_pos rfl]
          refine a4.go q4 fun f5 mh5 H5 my v p5 x5 a5 rv5 ⟨hd, hsz, q5⟩ => ?_
          have hD5 : f5[mh1.length]? = some D := get_pre (p2'.trans (p4.trans p5)) hDi
          obtain ⟨b', hb, vs', e5, rr⟩ := a5.h.at hd
          rw [hD5] at hb; cases hb
          have xx : Ext H5 (upd H5 D (.lst (vs' ++ [v]))) := Ext.put e5 (fun z => z)
          refine ⟨vs', e5, by rw [SZ_eq, ← rr.length]; exact hsz, f5, _, _, a5.h.put (o := .lst (acc ++ [my])) hD5 e5 (fun z => z) ⟨vs' ++ [v], upd_same, ?_⟩, p2'.trans (p4.trans p5), (((x2'.trans x3).trans x4).trans x5).trans xx, q5⟩
          exact (rr.mono (List.prefix_refl _) xx).append ⟨v, [], rfl, rv5.mono (List.prefix_refl _) xx, rfl⟩
      cases tg with
      | one j =>
        refine rest _ _ ?_ (s3.set rv3) q2
        rw [wipe_set (hv j (by simp [Tg.is])), wipe_idem (fun _ h => h)]
      | tup is =>
        obtain ⟨xs, e6, l6, q6⟩ := q2
        rw [e6] at rv3
        obtain ⟨ax, vsx, rfl, sqx, rrx⟩ := rv3
        refine ⟨ax, vsx, rfl, sqx, by rw [← rrx.length]; exact l6, gsN_go (by rw [← rrx.length]; exact l6) ?_⟩
        refine rest _ _ ?_ (setM_rel s3 rrx) q6
        rw [wipe_setM (is := is) (fun j hj => hv j hj), wipe_idem (fun _ h => h)]
  · have e2 : i = items.length := by omega
    subst e2
    rw [List.drop_length] at q2
    obtain ⟨hc, hd, q2⟩ := q2
    refine .inl ⟨(gs f2 mh2 H2 pf x2' r2 hc).2 _ rfl, k _ _ ⟨f2, mh2, .ref mh1.length, p1.trans pf, x1.trans x2', r2, ⟨D, rfl, get_pre p2' hDi⟩, q2⟩⟩
variable {elt tgE iter : Expr} {ifs : List Expr} {scope : Scope} {own : List (Str × Nat)} {pos : Pos} {wi : MTI} {tg : Tg} {wt : MTT} {we : MTE}
theorem m_comp (hc : X.calm = true) (hN : X.N.Nodup) (hi : IOk X W tgE iter wi) (ok : BlkOk X.N X.env.scope scope own) (hv : ∀ i ∈ tg.is, i ∈ own.map (·.2))
    (hg : ∀ (s : Shared) (H : Hp) (C : Addr) (cl : List (Str × Addr)) (fp : List Addr), PG (X.blk s H scope (compEnvC scope cl C X.env) fp) tgE (tgV X.K tg))
    (ht : ∀ (s : Shared) (H : Hp) (C : Addr) (cl : List (Str × Addr)) (fp : List Addr), TsOk (X.blk s H scope (compEnvC scope cl C X.env) fp) ifs wt)
    (he : ∀ (s : Shared) (H : Hp) (C : Addr) (cl : List (Str × Addr)) (fp : List Addr), EOk (X.blk s H scope (compEnvC scope cl C X.env) fp) W0 elt we) (hs : ∀ x, foldedSetIterable iter X.env x = pure x := by intro _; rfl) :
    EOk X W (.ListComp elt [⟨tgE, iter, ifs, 0⟩] scope pos) (wComp wi tg wt we (own.map (·.2))) :=
  PE.mono (pe_lc hc hN hi ok hg ht he hs) fun σ H Q h => comp_rd hv h
theorem s_setC {i : Nat} {y : Str} {py spos : Pos} (hc : X.calm = true) (hN : X.N.Nodup) (hy : X.N[i]? = some y) (hyl : X.env.scope.names.lookup y = some .local)
    (hsw : swapsWith (.ListComp elt [⟨tgE, iter, ifs, 0⟩] scope pos) (some (.Name y py)) spos.line X.env = pure true) (hi : IOk X W tgE iter wi) (ok : BlkOk X.N X.env.scope scope own) (hv : ∀ i ∈ tg.is, i ∈ own.map (·.2))
    (hg : ∀ (s : Shared) (H : Hp) (C : Addr) (cl : List (Str × Addr)) (fp : List Addr), PG (X.blk s H scope (compEnvC scope cl C X.env) fp) tgE (tgV X.K tg))
    (ht : ∀ (s : Shared) (H : Hp) (C : Addr) (cl : List (Str × Addr)) (fp : List Addr), TsOk (X.blk s H scope (compEnvC scope cl C X.env) fp) ifs wt)
    (he : ∀ (s : Shared) (H : Hp) (C : Addr) (cl : List (Str × Addr)) (fp : List Addr), EOk (X.blk s H scope (compEnvC scope cl C X.env) fp) W0 elt we) (hs : ∀ x, foldedSetIterable iter X.env x = pure x := by intro _; rfl) :
    SOk X W (.Assign [.Name y py] (.ListComp elt [⟨tgE, iter, ifs, 0⟩] scope pos) spos) (wAsg (wComp wi tg wt we (own.map (·.2))) (gN i)) :=
  PS.mono (ps_setLc hc hN hy hyl hsw hi ok hg ht he hs) fun D σ H ⟨f, sm, mh, D', a, q⟩ => by
    refine comp_rd hv (W := W) ⟨f, sm, mh, _, _, a.at, q, ?_⟩
    rintro v H1 ⟨f1, mh1, m, p, x, r1, rv, q1⟩
    exact a.nx _ _ ⟨f1, mh1, _, p, x, r1, (a.s.mono p x).set rv, q1⟩
end
end Mn
end
section
set_option maxHeartbeats 2000000
namespace Mn
open PySem PySem.Spec PyProof.Rows L2

/-! ### values as data -/
def pdL (g : M → Option PyData) : List M → Option (List PyData)
  | [] => some []
  | x :: xs => match g x, pdL g xs with
    | some d, some ds => some (d :: ds)
    | _, _ => none
def pd (h : MH) : Nat → M → Option PyData
  | _, .non => some .none
  | _, .bl b => some (.bool b)
  | _, .int i => some (.int i)
  | _, .str s => some (.str s)
  | n + 1, .tup xs => (pdL (pd h n) xs).map .tuple
  | n + 1, .ref k => match h[k]? with
    | some (.lst xs) => (pdL (pd h n) xs).map .list
    | some (.dct []) => some (.dict [])
    | _ => none
  | _, _ => none
section
variable {K : PySem.W.Frag} {f : List Addr} {mh : MH} {H : Hp}
theorem pdL_cons {g : M → Option PyData} {x : M} {xs : List M} {ds : List PyData} (h : pdL g (x :: xs) = some ds) : ∃ d r, ds = d :: r ∧ g x = some d ∧ pdL g xs = some r := by
  unfold pdL at h
  split at h
  · rename_i d r e1 e2
    cases h
    exact ⟨d, r, rfl, e1, e2⟩
  · cases h
theorem pd_dp (r : RH K f mh H) : ∀ (n : Nat) (m : M) (d : PyData) (v : V), pd mh n m = some d → d.canLay0 = true → RV K f H m v → Dp K H v d := by
  intro n
  have dpAll : ∀ (n : Nat), (∀ (m : M) (d : PyData) (v : V), pd mh n m = some d → d.canLay0 = true → RV K f H m v → Dp K H v d) → ∀ (xs : List M) (ds : List PyData) (vs : List V), pdL (pd mh n) xs = some ds → PyData.canLayAll0 ds = true → RVs K f H xs vs → DpAll K H vs ds := by
    intro n ih xs
    induction xs with
    | nil => intro ds vs h _ rv; cases h; cases rv; exact .nil
    | cons x xs ihx =>
      intro ds vs h hl rv
      obtain ⟨d, rd, rfl, h1, h2⟩ := pdL_cons h
      obtain ⟨v, rr, rfl, r1, r2⟩ := rv
      have hl' : (d.canLay0 && PyData.canLayAll0 rd) = true := hl
      rw [Bool.and_eq_true] at hl'
      exact .cons (ih x d v h1 hl'.1 r1) (ihx rd rr h2 hl'.2 r2)
  induction n with
  | zero =>
    intro m d v h hl rv
    cases m with
    | non => cases h; have e : v = .non := rv; subst e; exact .non
    | bl b => cases h; have e : v = .bl b := rv; subst e; exact .bl b
    | int i => cases h; have e : v = .int i := rv; subst e; exact .int i
    | str s => cases h; have e : v = .str s := rv; subst e; exact .str s
    | _ => cases h
  | succ n ih =>
    intro m d v h hl rv
    cases m with
    | non => cases h; have e : v = .non := rv; subst e; exact .non
    | bl b => cases h; have e : v = .bl b := rv; subst e; exact .bl b
    | int i => cases h; have e : v = .int i := rv; subst e; exact .int i
    | str s => cases h; have e : v = .str s := rv; subst e; exact .str s
    | tup xs =>
      have h : (pdL (pd mh n) xs).map PyData.tuple = some d := h
      obtain ⟨ds, h1, rfl⟩ := Option.map_eq_some_iff.mp h
      obtain ⟨a, vs, rfl, s, rr⟩ := rv
      exact .tup s (dpAll n ih xs ds vs h1 hl rr)
    | ref k =>
      have h : (match mh[k]? with | some (.lst xs) => (pdL (pd mh n) xs).map PyData.list | some (.dct []) => some (.dict []) | _ => none) = some d := h
      split at h
      · rename_i xs e
        obtain ⟨ds, h1, rfl⟩ := Option.map_eq_some_iff.mp h
        obtain ⟨a, vs, rfl, ha, e1, rr⟩ := r.lst e rv
        exact .lst (.of e1) (dpAll n ih xs ds vs h1 hl rr)
      · cases h; cases hl
      · cases h
    | _ => cases h
end
/-- == of data -/
def mEqG (neg : Bool) : MR2 := fun x y h Q => ∃ d e, pd h 60 x = some d ∧ pd h 60 y = some e ∧ SeqAt.shaped d = true ∧ SeqAt.shaped e = true ∧ Q (.bl (if neg then !PyData.eqv d e else PyData.eqv d e)) h
def mEq : MR2 := fun x y h Q => match x, y with
  | .int i, .int j => Q (.bl (i == j)) h
  | .bl a, .bl b => Q (.bl (a == b)) h
  | .str a, .str b => Q (.bl (a == b)) h
  | x, y => mEqG false x y h Q
def mNe : MR2 := fun x y h Q => match x, y with
  | .int i, .int j => Q (.bl (!(i == j))) h
  | .bl a, .bl b => Q (.bl (!(a == b))) h
  | .str a, .str b => Q (.bl (!(a == b))) h
  | x, y => mEqG true x y h Q
section
variable {X : Cx}
def rEqA (K : PySem.W.Frag) : R2 := fun x y H Q => rEq x y H Q ∨ rEqD K x y H Q
def rNeA (K : PySem.W.Frag) : R2 := fun x y H Q => rNe x y H Q ∨ rNeD K x y H Q
theorem op_eqA (hu : X.A.units + 64 < cLine) : OpR X (compareOp .Eq) (rEqA X.K) := OpR.or op_eq (op_eqD hu)
theorem op_neA (hu : X.A.units + 64 < cLine) : OpR X (compareOp .NotEq) (rNeA X.K) := OpR.or op_ne (op_neD hu)
theorem lay_of {d : PyData} (h : SeqAt.shaped d = true) : d.canLay0 = true := SeqAt.canLay_of_shaped h
theorem l_eq : L2R X.K (rEqA X.K) mEq := by
  intro f mh H x y xv yv Q' Q r rx ry q k
  have gen : mEqG false x y mh Q' → rEqA X.K xv yv H Q := fun ⟨d, e, h1, h2, s1, s2, q⟩ =>
    .inr ⟨d, e, pd_dp r 60 x d xv h1 (lay_of s1) rx, pd_dp r 60 y e yv h2 (lay_of s2) ry, s1, s2, k _ _ (QL.same r (m := .bl (PyData.eqv d e)) rfl q)⟩
  unfold mEq at q
  split at q
  · rename_i i j
    have e1 : xv = .int i := rx
    have e2 : yv = .int j := ry
    subst e1 e2
    exact .inl ⟨rfl, k _ _ (QL.same r (m := .bl (i == j)) (congrArg V.bl dec_int) q)⟩
  · rename_i i j
    have e1 : xv = .bl i := rx
    have e2 : yv = .bl j := ry
    subst e1 e2
    exact .inl ⟨rfl, k _ _ (QL.same r (m := .bl (i == j)) (congrArg V.bl dec_bl) q)⟩
  · rename_i i j
    have e1 : xv = .str i := rx
    have e2 : yv = .str j := ry
    subst e1 e2
    exact .inl ⟨rfl, k _ _ (QL.same r (m := .bl (i == j)) (congrArg V.bl dec_str) q)⟩
  · exact gen q
theorem l_ne : L2R X.K (rNeA X.K) mNe := by
  intro f mh H x y xv yv Q' Q r rx ry q k
  have gen : mEqG true x y mh Q' → rNeA X.K xv yv H Q := fun ⟨d, e, h1, h2, s1, s2, q⟩ =>
    .inr ⟨d, e, pd_dp r 60 x d xv h1 (lay_of s1) rx, pd_dp r 60 y e yv h2 (lay_of s2) ry, s1, s2, k _ _ (QL.same r (m := .bl (!PyData.eqv d e)) rfl q)⟩
  unfold mNe at q
  split at q
  · rename_i i j
    have e1 : xv = .int i := rx
    have e2 : yv = .int j := ry
    subst e1 e2
    exact .inl ⟨rfl, k _ _ (QL.same r (m := .bl (!(i == j))) (congrArg (fun b => V.bl (!b)) dec_int) q)⟩
  · rename_i i j
    have e1 : xv = .bl i := rx
    have e2 : yv = .bl j := ry
    subst e1 e2
    exact .inl ⟨rfl, k _ _ (QL.same r (m := .bl (!(i == j))) (congrArg (fun b => V.bl (!b)) dec_bl) q)⟩
  · rename_i i j
    have e1 : xv = .str i := rx
    have e2 : yv = .str j := ry
    subst e1 e2
    exact .inl ⟨rfl, k _ _ (QL.same r (m := .bl (!(i == j))) (congrArg (fun b => V.bl (!b)) dec_str) q)⟩
  · exact gen q
/-! is None -/
def isNon : M → Bool
  | .non => true
  | _ => false
def mIs : MR2 := fun x y h Q => match y with
  | .non => Q (.bl (isNon x)) h
  | _ => False
def mIsNot : MR2 := fun x y h Q => match y with
  | .non => Q (.bl (!isNon x)) h
  | _ => False
theorem isNon_ok {K : PySem.W.Frag} {f : List Addr} {H : Hp} {x : M} {v : V} (r : RV K f H x v) : decide (v = .non) = isNon x := by
  cases x with
  | non => have e : v = .non := r; subst e; rfl
  | bl b => have e : v = .bl b := r; subst e; rfl
  | int i => have e : v = .int i := r; subst e; rfl
  | str s => have e : v = .str s := r; subst e; rfl
  | tup xs => obtain ⟨a, vs, rfl, _⟩ := r; rfl
  | ref n => obtain ⟨a, rfl, _⟩ := r; rfl
  | glo x => have e : v = .ref _ := r; subst e; rfl
  | exc C ks vs => obtain ⟨a, d, us, rfl, _⟩ := r; rfl
  | ty n => have e : v = .ty n := r; subst e; rfl
  | lam a c q σ bs ms => obtain ⟨rfl, _⟩ := r; rfl
theorem l_is : L2R X.K (fun x y H Q => y = .non ∧ Q (.bl (decide (x = .non))) H) mIs := by
  intro f mh H x y xv yv Q' Q r rx ry q k
  unfold mIs at q
  split at q
  · have e : yv = .non := ry
    subst e
    exact ⟨rfl, k _ _ (QL.same r (m := .bl (isNon x)) (congrArg V.bl (isNon_ok rx)) q)⟩
  · exact q.elim
theorem l_isNot : L2R X.K (fun x y H Q => y = .non ∧ Q (.bl (!decide (x = .non))) H) mIsNot := by
  intro f mh H x y xv yv Q' Q r rx ry q k
  unfold mIsNot at q
  split at q
  · have e : yv = .non := ry
    subst e
    exact ⟨rfl, k _ _ (QL.same r (m := .bl (!isNon x)) (congrArg (fun b => V.bl (!b)) (isNon_ok rx)) q)⟩
  · exact q.elim
end

/-! ### subscripts -/
def itemsM (h : MH) : M → Option (List M)
  | .tup xs => some xs
  | .ref n => match h[n]? with
    | some (.lst xs) => some xs
    | some (.rol xs) => some xs
    | _ => none
  | _ => none
def mIx : MR2 := fun x y h Q => ∃ xs i v, itemsM h x = some xs ∧ y = .int i ∧ atI xs i = some v ∧ Q v h
section
variable {K : PySem.W.Frag} {f : List Addr} {mh : MH} {H : Hp}
theorem items_rd (r : RH K f mh H) {m : M} {v : V} {xs : List M} (rv : RV K f H m v) (h : itemsM mh m = some xs) : ∃ a vs, v = .ref a ∧ (Rd H a (.lst vs) ∨ SqT K H a vs) ∧ RVs K f H xs vs := by
  cases m with
  | tup ys =>
    have e : ys = xs := Option.some.inj h
    subst e
    obtain ⟨a, vs, rfl, s, rr⟩ := rv
    exact ⟨a, vs, rfl, .inr s, rr⟩
  | ref n =>
    have h : (match mh[n]? with | some (.lst xs) => some xs | some (.rol xs) => some xs | _ => none) = some xs := h
    obtain ⟨a, rfl, ha⟩ := rv
    split at h
    · rename_i ys e
      cases h
      obtain ⟨b, hb, vs, e1, rr⟩ := r.at e
      rw [ha] at hb; cases hb
      exact ⟨a, vs, rfl, .inl (.inl e1), rr⟩
    · rename_i ys e
      cases h
      obtain ⟨b, hb, o, vs, e1, rr⟩ := r.at e
      rw [ha] at hb; cases hb
      exact ⟨a, vs, rfl, .inl (.inr ⟨o, e1⟩), rr⟩
    · cases h
  | _ => cases h
theorem ref_rd (r : RH K f mh H) {n : Nat} {v : V} {xs : List M} (rv : RV K f H (.ref n) v) (h : itemsM mh (.ref n) = some xs) : ∃ a vs, v = .ref a ∧ Rd H a (.lst vs) ∧ RVs K f H xs vs := by
  have h : (match mh[n]? with | some (.lst xs) => some xs | some (.rol xs) => some xs | _ => none) = some xs := h
  obtain ⟨a, rfl, ha⟩ := rv
  split at h
  · rename_i ys e
    cases h
    obtain ⟨b, hb, vs, e1, rr⟩ := r.at e
    rw [ha] at hb; cases hb
    exact ⟨a, vs, rfl, .inl e1, rr⟩
  · rename_i ys e
    cases h
    obtain ⟨b, hb, o, vs, e1, rr⟩ := r.at e
    rw [ha] at hb; cases hb
    exact ⟨a, vs, rfl, .inr ⟨o, e1⟩, rr⟩
  · cases h
theorem atI_rel {xs : List M} {vs : List V} {i : Int} {m : M} (r : RVs K f H xs vs) (h : atI xs i = some m) : ∃ v, atI vs i = some v ∧ RV K f H m v := by
  unfold atI at h ⊢
  rw [← r.length]
  cases q : ixN xs.length i with
  | none => rw [q] at h; cases h
  | some j =>
    rw [q] at h
    exact r.get h
end
theorem l_ix {X : Cx} : L2R X.K (rIx X.K) mIx := by
  intro f mh H x y xv yv Q' Q r rx ry ⟨xs, i, m, h1, h2, h3, q⟩ k
  subst h2
  have e2 : yv = .int i := ry
  subst e2
  obtain ⟨a, vs, rfl, s, rr⟩ := items_rd r rx h1
  obtain ⟨v, h4, rv⟩ := atI_rel rr h3
  rcases s with s | s
  · exact .inl ⟨a, vs, i, v, rfl, rfl, .inl s, h4, k _ _ (QL.same r rv q)⟩
  · exact .inr (.inl ⟨a, vs, i, v, rfl, rfl, s, h4, k _ _ (QL.same r rv q)⟩)
section
variable {X : Cx} {W : WX} {a b : Expr} {wa wb : MTE} {pos : Pos}
theorem m_ix {r : R2} {m : MR2} (hr : IxR X r) (l : L2R X.K r m) (ha : EOk X W a wa) (hb : EOk X W b wb) (hs : PlainIx b) : EOk X W (.Subscript a b pos) (wOp m wa wb) :=
  PE.mono (pe_ix hr ha hb hs) fun σ H Q ⟨f, sm, mh, Q', E, a, q, k⟩ =>
    a.go q fun f1 mh1 H1 m1 v1 p1 x1 a1 r1 q1 => a1.go q1 fun f2 mh2 H2 m2 v2 p2 x2 a2 r2 q2 =>
      l f2 mh2 H2 m1 m2 v1 v2 Q' Q a2.h (r1.mono p2 x2) r2 q2 fun v H' z => k v H' ((z.back p2 x2).back p1 x1)
end
/-! o[i] = v -/
def gSubM (wo wi : MTE) : MS → MH → M → (MS → MH → Prop) → KM → Prop := fun sm h v Q E => wo sm h (fun o h1 => wi sm h1 (fun i h2 => ∃ n xs k j, o = .ref n ∧ i = .int k ∧ h2[n]? = some (.lst xs) ∧ ixN xs.length k = some j ∧ Q sm (h2.set n (.lst (xs.set j v)))) E) E
def wAsgSub (we wo wi : MTE) : MTS := fun D sm h => we sm h (fun v h1 => gSubM wo wi sm h1 v D.nx (fun e h => D.xc e sm h)) (fun e h => D.xc e sm h)
section
variable {X : Cx} {W : WX} {o i e : Expr} {wo wi we : MTE} {pos tpos : Pos}
theorem set_rd {K : PySem.W.Frag} {f : List Addr} {mh : MH} {H : Hp} {n : Nat} {xs : List M} {k : Int} {j : Nat} {m : M} {ov v : V} {Q : Hp → Prop} (r : RH K f mh H) (ro : RV K f H (.ref n) ov) (rv : RV K f H m v) (h : mh[n]? = some (.lst xs)) (hj : ixN xs.length k = some j)
    (q : ∀ H', Ext H H' → RH K f (mh.set n (.lst (xs.set j m))) H' → Q H') : rSetL ov (.int k) v H Q := by
  obtain ⟨a, vs, rfl, ha, e1, rr⟩ := r.lst h ro
  have x : Ext H (upd H a (.lst (vs.set j v))) := Ext.put e1 fun z => z
  exact ⟨a, vs, k, j, rfl, rfl, e1, by rw [← rr.length]; exact hj, q _ x (r.put (o := .lst (xs.set j m)) ha e1 (fun z => z) ⟨_, upd_same, (rr.mono (List.prefix_refl _) x).set j (rv.mono (List.prefix_refl _) x)⟩)⟩
theorem s_setSub (he : EOk X W e we) (ho : EOk X W o wo) (hi : EOk X W i wi) (hs : swapsWithSole [.Subscript o i tpos] e pos.line X.env = pure false := by rfl) (hw : swappedStores [.Subscript o i tpos] e X.env = pure none := by rfl)
    (h1 : (assignEach [.Subscript o i tpos] X.env).map (·.2) = [assign (.Subscript o i tpos) X.env] := by rfl)
    (ha : ∀ v, assign (.Subscript o i tpos) X.env v = (do
      let ov ← holding [v] (eval o X.env)
      let iv ← holding [v, ov] (eval i X.env)
      standAt tpos
      holding [v, ov, iv] (setItem ov iv v)
      release [v, ov, iv] []) := by intro _; rfl) : SOk X W (.Assign [.Subscript o i tpos] e pos) (wAsgSub we wo wi) :=
  PS.mono (ps_asg he (pg_sub ho hi set_list ha) hs hw h1) fun D σ H ⟨f, sm, mh, D', a, q⟩ => a.at.go q fun f1 mh1 H1 m v p1 x1 a1 r1 q1 =>
    a1.go q1 fun f2 mh2 H2 mo vo p2 x2 a2 r2 q2 => a2.go q2 fun f3 mh3 H3 mi vi p3 x3 a3 r3 ⟨n, xs, k, j, e1, e2, h3, hj, q3⟩ => by
      subst e1 e2
      have e4 : vi = .int k := r3
      subst e4
      exact set_rd a3.h (r2.mono p3 x3) ((r1.mono p2 x2).mono p3 x3) h3 hj fun H' x4 r4 => a.nx _ _ ⟨f3, _, sm, (p1.trans p2).trans p3, ((x1.trans x2).trans x3).trans x4, r4, a3.s.mono (List.prefix_refl _) x4, q3⟩
/-! o[i] op= e -/
def wAugSub (wo wi we : MTE) (m : MR2) : MTS := fun D sm h => wo sm h (fun o h1 => wi sm h1 (fun i h2 => ∃ n xs k j x, o = .ref n ∧ i = .int k ∧ h2[n]? = some (.lst xs) ∧ ixN xs.length k = some j ∧ xs[j]? = some x ∧
  we sm h2 (fun y h3 => m x y h3 fun z h4 => ∃ ys, h4[n]? = some (.lst ys) ∧ ys.length = xs.length ∧ D.nx sm (h4.set n (.lst (ys.set j z)))) (fun e h => D.xc e sm h)) (fun e h => D.xc e sm h)) (fun e h => D.xc e sm h)
theorem get_list {X : Cx} : PGet X (fun x y H Q => ∃ p xs i v, x = .ref p ∧ y = .int i ∧ H p = some (.lst xs) ∧ atI xs i = some v ∧ Q v H) := by
  intro pins s σ H ox oi ov iv Q I ro ri ⟨p, xs, k, v, e1, e2, hp, hv, q⟩
  subst e1 e2
  cases ro
  obtain ⟨t, rfl⟩ := ri
  obtain ⟨its, rv, pl, hz⟩ := I.list (SqL.of hp)
  obtain ⟨j, hj, hjv, hlt, h1, h2⟩ := atI_get hv
  obtain ⟨u, hu, ru⟩ := rv.get hjv
  have hl := rv.length
  have lz := line63
  by_cases h0 : 0 ≤ k
  · have hj' : k.toNat = j := by
      rw [seqIndex_of h0 h2] at hj
      exact Option.some.inj hj
    exact wpAny_getItem_list pl.isList h0 (by omega) (by rw [hj']; simpa using hu) ⟨v, H, I, ru, q⟩
  · have hj' : (k + (its.toArray.size : Int)).toNat = j := by
      rw [seqIndex_neg (by omega) h1] at hj
      rw [List.size_toArray, ← hl]
      exact Option.some.inj hj
    exact wpAny_getItem_list_neg pl.isList (by omega) (by rw [List.size_toArray] <;> omega) (by omega) (by rw [hj']; simpa using hu) ⟨v, H, I, ru, q⟩
theorem atI_ix {α : Type} {xs : List α} {k : Int} {j : Nat} {x : α} (h : ixN xs.length k = some j) (hx : xs[j]? = some x) : atI xs k = some x := by unfold atI; rw [h]; exact hx
theorem s_augSub {op : Operator} {r : R2} {m : MR2} (ho : EOk X W o wo) (hi : EOk X W i wi) (he : EOk X W e we) (hp : OpR X (inplaceOp op) r) (l : L2R X.K r m)
    (ha : ∀ ov iv new, augStore i ov iv new = (do holding [new, ov, iv] (setItem ov iv new); release [new, ov, iv] []; pure .next) := by intros; rfl) :
    SOk X W (.AugAssign (.Subscript o i tpos) op e pos) (fun D sm h => wo sm h (fun o h1 => wi sm h1 (fun i h2 => ∃ n xs k j x, o = .ref n ∧ i = .int k ∧ h2[n]? = some (.lst xs) ∧ ixN xs.length k = some j ∧ xs[j]? = some x ∧
      we sm h2 (fun y h3 => m x y h3 fun z h4 => ∃ ys, h4[n]? = some (.lst ys) ∧ ixN ys.length k = some j ∧ D.nx sm (h4.set n (.lst (ys.set j z)))) (fun e h => D.xc e sm h)) (fun e h => D.xc e sm h)) (fun e h => D.xc e sm h)) :=
  PS.mono (ps_augS ho hi get_list he (op := op) (tip := r) hp set_list ha) fun D σ H ⟨f, sm, mh, D', a, q⟩ => a.at.go q fun f1 mh1 H1 mo vo p1 x1 a1 r1 q1 =>
    a1.go q1 fun f2 mh2 H2 mi vi p2 x2 a2 r2 ⟨n, xs, kk, j, x, e1, e2, h3, hj, hx, q2⟩ => by
      subst e1 e2
      have e4 : vi = .int kk := r2
      subst e4
      obtain ⟨ad, vs, rfl, had, e5, rr⟩ := a2.h.lst h3 (r1.mono p2 x2)
      obtain ⟨v, hv, rv⟩ := rr.get hx
      refine ⟨ad, vs, kk, v, rfl, rfl, e5, atI_ix (by rw [← rr.length]; exact hj) hv, ?_⟩
      refine a2.go q2 fun f3 mh3 H3 my vy p3 x3 a3 r3 q3 => ?_
      refine l f3 mh3 H3 x my v vy _ _ a3.h (rv.mono p3 x3) r3 q3 ?_
      rintro z H4 ⟨f4, mh4, mz, p4, x4, r4, rv4, ys, h5, hj4, q4⟩
      refine set_rd r4 (((r1.mono p2 x2).mono p3 x3).mono p4 x4) rv4 h5 hj4 fun H' x5 r5 => ?_
      exact a.nx _ _ ⟨f4, _, sm, ((p1.trans p2).trans p3).trans p4, (((x1.trans x2).trans x3).trans x4).trans x5, r5, (a3.s.mono p4 x4).mono (List.prefix_refl _) x5, q4⟩
end

/-! ### slices a[lo:hi] -/
abbrev MTO := MS → MH → (Option Int → MH → Prop) → KM → Prop
def oNo : MTO := fun _ h Q _ => Q none h
def oSome (w : MTE) : MTO := fun sm h Q E => w sm h (fun m h1 => ∃ i, m = .int i ∧ Q (some i) h1) E
def liftO (K : PySem.W.Frag) (W : WX) (w : MTO) : TO := fun σ H Q => ∃ f sm mh Q' E, At K W f sm mh σ H E ∧ w sm mh Q' E ∧ ∀ o H', (∃ f' mh', f <+: f' ∧ Ext H H' ∧ RH K f' mh' H' ∧ Q' o mh') → Q o H'
abbrev OOk (X : Cx) (W : WX) (e : Option Expr) (w : MTO) : Prop := PO X e (liftO X.K W w)
def cutM (xs : List M) (lo hi : Option Int) : List M := (xs.drop (HT.sIx xs.length 0 lo)).take (HT.sIx xs.length xs.length hi - HT.sIx xs.length 0 lo)
def mSl (x : M) (lo hi : Option Int) (h : MH) (Q : KM) : Prop := match x with
  | .tup xs => Q (.tup (cutM xs lo hi)) h
  | .ref n => ∃ xs, itemsM h (.ref n) = some xs ∧ Q (.ref h.length) (h ++ [.lst (cutM xs lo hi)])
  | _ => False
def wSl (w : MTE) (lo hi : MTO) : MTE := fun sm h Q E => w sm h (fun x h1 => lo sm h1 (fun l h2 => hi sm h2 (fun u h3 => mSl x l u h3 Q) E) E) E
section
variable {X : Cx} {W : WX} {e : Expr} {we : MTE} {pos p2 : Pos} {lo hi : Option Expr} {wl wh : MTO}
theorem PO.mono {e : Option Expr} {t u : TO} (h : PO X e t) (i : ∀ σ H Q, u σ H Q → t σ H Q) : PO X e u := ⟨fun pins s σ H Q I q => h.run pins s σ H Q I (i σ H Q q)⟩
theorem o_none : OOk X W none oNo := PO.mono po_none fun σ H Q ⟨f, sm, mh, Q', E, a, q, k⟩ => k _ _ ⟨f, mh, List.prefix_refl _, Ext.refl _, a.h, q⟩
theorem o_some (h : EOk X W e we) : OOk X W (some e) (oSome we) := PO.mono (po_some h) fun σ H Q ⟨f, sm, mh, Q', E, a, q, k⟩ =>
  a.go q fun f1 mh1 H1 m v p x a1 r1 ⟨i, e, q1⟩ => by
    subst e
    exact ⟨i, r1, k _ _ ⟨f1, mh1, p, x, a1.h, q1⟩⟩
theorem At.goO {K : PySem.W.Frag} {f : List Addr} {sm : MS} {mh : MH} {σ : L2.St} {H : Hp} {E : KM} (a : At K W f sm mh σ H E) {w : MTO} {Q' : Option Int → MH → Prop} {Q : Option Int → Hp → Prop} (h : w sm mh Q' E)
    (k : ∀ f1 mh1 H1 o, f <+: f1 → Ext H H1 → At K W f1 sm mh1 σ H1 E → Q' o mh1 → Q o H1) : liftO K W w σ H Q :=
  ⟨f, sm, mh, Q', E, a, h, fun o H1 ⟨f1, mh1, p, x, r, q⟩ => k f1 mh1 H1 o p x (a.step p x r) q⟩
theorem cut_rel {K : PySem.W.Frag} {f : List Addr} {H : Hp} {xs : List M} {vs : List V} (r : RVs K f H xs vs) (lo hi : Option Int) : RVs K f H (cutM xs lo hi) (cutV vs lo hi) := by
  unfold cutM cutV
  rw [r.length]
  exact (r.drop _).take _
def rSlAll (K : PySem.W.Frag) : V → Option Int → Option Int → Hp → VK → Prop := fun x lo hi H Q => rSlL K x lo hi H Q ∨ rSlA K x lo hi H Q
theorem sl_all : SlR X (rSlAll X.K) := SlR.or sl_list sl_tupA
theorem whole_cut {xs : List M} {lo hi : Option Int} (h : HT.sIx xs.length 0 lo = 0 ∧ HT.sIx xs.length xs.length hi = xs.length) : cutM xs lo hi = xs := by
  unfold cutM
  rw [h.1, h.2]
  simp
theorem m_slice (he : EOk X W e we) (hl : OOk X W lo wl) (hu : OOk X W hi wh) : EOk X W (.Subscript e (.Slice lo hi none p2) pos) (wSl we wl wh) :=
  PE.mono (pe_slice sl_all he hl hu) fun σ H Q ⟨f, sm, mh, Q', E, a, q, k⟩ =>
    a.go q fun f1 mh1 H1 m v p1 x1 a1 r1 q1 => a1.goO q1 fun f2 mh2 H2 l p2 x2 a2 q2 => a2.goO q2 fun f3 mh3 H3 u p3 x3 a3 q3 => by
      have r3 := (r1.mono p2 x2).mono p3 x3
      have back : ∀ v H', QL X.K f3 H3 Q' v H' → Q v H' := fun v H' z => k v H' (((z.back p3 x3).back p2 x2).back p1 x1)
      unfold mSl at q3
      split at q3
      · rename_i xs
        obtain ⟨b, vs, rfl, s, rr⟩ := r3
        refine .inr ⟨b, vs, rfl, s, fun hw => ?_, fun hw pa hp => back _ _ (QL.tup a3.h (cut_rel rr l u) hp q3)⟩
        rw [whole_cut (by rw [rr.length]; exact hw)] at q3
        exact back _ _ (QL.same a3.h (m := .tup xs) ⟨b, vs, rfl, s, rr⟩ q3)
      · rename_i n
        obtain ⟨xs, h1, q4⟩ := q3
        obtain ⟨b, vs, rfl, s, rr⟩ := ref_rd a3.h r3 h1
        exact .inl ⟨b, vs, rfl, .inl s, fun pa hp => back _ _ (QL.lst a3.h (cut_rel rr l u) hp q4)⟩
      · exact q3.elim
end
end Mn
end
section
set_option maxHeartbeats 2000000
namespace Mn
open PySem PySem.Spec PyProof.Rows L2

/-! ### a caught exception, tracked from then on -/
section
variable {X : Cx} {pins : List (Addr × Obj)} {σ : L2.St} {H : Hp} {sI s' : Shared} {a : Addr} {cls : Value} {d : Option Addr}
theorem exO_ne_own {x : Addr} : ExO a cls d ≠ .own x := fun z => by unfold ExO at z; cases z
theorem exO_ne_tup {xs : List V} : ExO a cls d ≠ .tup xs := fun z => by unfold ExO at z; cases z
theorem inv_track {oe : Obj} {vs : Array Value} (I : Inv X pins σ H sI) (hna : sI.heap.get? a = none) (J : Inv X pins σ H s') (he : s'.heap.get? a = some oe) (hz : Zc cls d oe) (hd : oe.data = .fields vs) (na : H a = none) (hex : X.ex = []) :
    Inv X pins σ (upd H a (ExO a cls d)) s' := by
  have h0 : X.s_0.heap.get? a = none := by
    cases q : X.s_0.heap.get? a with
    | none => rfl
    | some o =>
      obtain ⟨o', z⟩ := I.base.there a o q (by rw [hex]; simp)
      rw [hna] at z; cases z
  have ne0 : ∀ {b : Addr} {o : Obj}, X.s_0.heap.get? b = some o → b ≠ a := fun {b o} e z => by rw [z, h0] at e; cases e
  have neI : ∀ {b : Addr} {o : Obj}, sI.heap.get? b = some o → b ≠ a := fun {b o} e z => by rw [z, hna] at e; cases e
  have neH : ∀ {b : Addr} {o : HO}, H b = some o → b ≠ a := fun {b o} e z => by rw [z, na] at e; cases e
  refine ⟨J.ok, J.os, J.bare, ⟨J.base.keep, J.base.slot, fun b o e n hx => ?_, J.base.there, fun b xs e => ?_, fun b o u e => ?_, fun b ps e => ?_⟩, J.loc, J.cell, ?_, fun x c e => ?_, fun p hp => ?_, fun b o e => ?_, J.len⟩
  · rw [upd_ne (ne0 e)]; exact J.base.free b o e n hx
  · have z := J.base.tups b xs e
    rw [upd_ne (neH z)]; exact z
  · have z := J.base.frzs b o u e
    rw [upd_ne (neH z)]; exact z
  · obtain ⟨more, z⟩ := J.base.tbls b ps e
    exact ⟨more, by rw [upd_ne (neH z)]; exact z⟩
  · obtain ⟨m, ⟨o, es, ep, ho, _⟩, _⟩ := I.loc
    rw [upd_ne (neI ho)]; exact J.free
  · obtain ⟨v, o, ho, _⟩ := I.cell x c e
    rw [upd_ne (neI ho)]; exact J.freeC x c e
  · obtain ⟨e1, _⟩ := I.pin p hp
    obtain ⟨z1, z2, z3⟩ := J.pin p hp
    exact ⟨z1, by rw [upd_ne (neI e1)]; exact z2, z3⟩
  · by_cases hb : b = a
    · subst hb
      rw [upd_same] at e; cases e
      exact ⟨⟨oe, vs, he, hz.1, hz.2, hd⟩, ⟨oe, he⟩, fun h1 h2 ⟨oe', vs', w1, w2⟩ st => ⟨oe', vs', st _ w1, w2⟩⟩
    · rw [upd_ne hb] at e
      refine (J.hok b o e).stay (fun c u hc q => q) (fun c hc => ?_) fun c xs hc => ?_
      · rw [upd_ne (neH hc)]; exact hc
      · rw [upd_ne (neH hc)]; exact hc
theorem inv_suite0 (I : Inv X pins σ H s') (a : Addr) : Inv (X.suite a (X.pn ++ pins)) [] σ H s' :=
  ⟨I.ok.suite _ _, I.os, I.bare, I.base, I.loc, I.cell, I.free, I.freeC, fun p hp => I.pin p (by rw [List.append_nil] at hp; exact hp), I.hok, I.len⟩
theorem inv_unsuite0 {pn' : List (Addr × Obj)} (I : Inv (X.suite a (X.pn ++ pins)) pn' σ H s') (ok : X.Ok) : Inv X pins σ H s' :=
  ⟨ok, I.os, I.bare, I.base, I.loc, I.cell, I.free, I.freeC, fun p hp => I.pin p (List.mem_append_left _ hp), I.hok, I.len⟩
end
theorem flying_keeps {B h h' : Heap} {l : List Env} {a : Addr} {Z : Obj → Prop} (f : HandSPX.FlyingZ B l a Z h) (k : ∀ b o, h.get? b = some o → h'.get? b = some o) : HandSPX.FlyingZ B l a Z h' := by
  obtain ⟨f1, f2, f3, oe, vs, T, oT, ts, e1, e2, e3, e4, e5, e6, e7, e8⟩ := f
  exact ⟨fun b o e => k b o (f1 b o e), f2, f3.of_keeps fun b o e _ => ⟨o, k b o e, rfl⟩, oe, vs, T, oT, ts, k _ _ e1, e2, e3, e4, e5, e6, k _ _ e7, e8⟩

/-- the test of an except clause: it gives c, which answers b of an exception of the class cls -/
def ExTest (X : Cx) (t : Expr) (ans : Value → Bool → Prop) : Prop :=
  ∀ (a : Addr) (pn pins : List (Addr × Obj)) (σ : L2.St) (H : Hp) (s : Shared) (cls : Value) (b : Bool) (Q : Value → Shared → Prop) (E : Value → Shared → Prop), Inv (X.suite a pn) pins σ H s → ans cls b →
    PySem.W.Looks (model X.prog X.w) s.heap (typeOf (.ref a)) cls →
    (∀ (c : Value) (h' : Heap) (t' : Nat), (∀ b o, s.heap.get? b = some o → h'.get? b = some o) → PySem.W.Looks (model X.prog X.w) h' (excMatches (.ref a) c) b → Q c { s with heap := h', toks := t' }) →
    wpAny (model X.prog X.w) (X.A.mark (some (.ref a))) (eval t X.env) Q E s
section
variable {X : Cx}
theorem names_ld {x : Str} {c : Value} (hc : Names X x c) {a : Addr} {pn pins : List (Addr × Obj)} {σ : L2.St} {H : Hp} {s : Shared} {np : Pos} {Q : Value → Shared → Prop} {E : Value → Shared → Prop} (S : Inv (X.suite a pn) pins σ H s) (q : Q c s) :
    wpAny (model X.prog X.w) (X.A.mark (some (.ref a))) (eval (.Name x np) X.env) Q E s := by
  obtain ⟨hg, hdbg, hm | ⟨hm, hv, hnn⟩⟩ := hc
  · exact ld_glob (X := X.suite a pn) S hg hm q hdbg
  · exact ld_blt (X := X.suite a pn) S hg hm hv q hnn hdbg
theorem test_one {x : Str} {c : Value} {np : Pos} (hc : Names X x c) : ExTest X (.Name x np) fun cls b => PySem.W.exmOne X.K cls c = some b := by
  intro a pn pins σ H s cls b Q E S hb LT h
  exact names_ld hc S (h c s.heap s.toks (fun _ _ z => z) (PySem.W.exm_one S.kIn LT hb))
theorem test_two {x y : Str} {c e : Value} {np mp tp : Pos} {kk : Nat} (hc : Names X x c) (he : Names X y e) : ExTest X (.Tuple [.Name x np, .Name y mp] kk tp) fun cls b => PySem.W.exmAny X.K cls [c, e] = some b := by
  intro a pn pins σ H s cls b Q E S hb LT h
  refine wpAny_Tuple_spliced ?_
  show wpAny _ _ (spliced [(false, eval (.Name x np) X.env), (false, eval (.Name y mp) X.env)]) _ _ s
  refine Calls.spliced_cons (names_ld hc S (Calls.spliced_cons (names_ld he S (Calls.spliced_nil ⟨?_, ?_⟩))))
  · rw [sizeLine_eq]; show 2 ≤ 16777216; decide
  · refine h _ _ s.toks (fun b o z => Heap.get?_push_of_some _ z) ?_
    exact PySem.W.exm_tup2 (S.kIn.keeps fun b o z => Heap.get?_push_of_some _ z) (LT.keeps fun b o z => Heap.get?_push_of_some _ z) (Heap.get?_push_size _ rfl) hb
/-- what the clause of a try wishes: the exception is tracked -/
def wAsT (ans : Value → Bool → Prop) (i : Nat) (ts : Addr → Value → Option Addr → TS) (Wout : WX) (D : Ends) : WX := fun cls d σ H =>
  ∃ b, ans cls b ∧ (b = true → ∀ a, H a = none → ts a cls d { nx := fun σ' H' => D.nx (σ'.set i none) H', rt := D.rt, bk := fun σ' H' => D.bk (σ'.set i none) H', ct := fun σ' H' => D.ct (σ'.set i none) H' } (σ.set i (some (.ref a))) (upd H a (ExO a cls d))) ∧
    (b = false → Wout cls d σ H)
theorem ps_tryT {n : Str} {i : Nat} {body suite : List Stmt} {b₀ : Stmt} {t : Expr} {pos pos' : Pos} {tb : WX → TS} {ts : Addr → Value → Option Addr → TS} {Wout : WX} {ans : Value → Bool → Prop} (hs : X.stack = X.env :: X.outer) (hf : X.env.frame = some X.env.locals) (hex : X.ex = []) (hN : X.N.Nodup) (hi : X.N[i]? = some n) (hln : X.env.kindOf n = some .local) (ht : ExTest X t ans)
    (tk : Takes X Wout) (hb : ∀ (W : WX) (pn : List (Addr × Obj)) (xe : Value → Shared → Prop), Takes (X.tr pn xe) W → PassesOwn (model X.prog X.w) X.A X.env xe → PSs (X.tr pn xe) body (tb W))
    (hsu : ∀ (a : Addr) (cls : Value) (d : Option Addr) (pn : List (Addr × Obj)), PSs (X.suite a pn) (b₀ :: suite) (ts a cls d)) :
    PS X (.Try body [.ExceptHandler (some t) (some n) (b₀ :: suite) pos'] [] [] pos) (fun D σ H => tb (wAsT ans i ts Wout D) D σ H) := by
  refine ⟨fun pins s σ H D I h => ?_⟩
  have ok := I.ok
  have hfr : X.A.frames = some (X.env :: X.outer) := by rw [ok.frames, hs]
  have hloc : Loc X.env.scope n := .inl hln
  have run := (hb (wAsT ans i ts Wout D) (X.pn ++ pins) (fun e s₁ => wpAny (model X.prog X.w) X.A (noteFrame e X.env) (fun _ s₂ => wpAny (model X.prog X.w) X.A (setFlight e none) (fun _ s₃ =>
    wpAny (model X.prog X.w) X.A (handleBy e X.env [.ExceptHandler (some t) (some n) (b₀ :: suite) pos']) (SP X pins D) X.xe s₃) X.xe s₂) X.xe s₁) (fun u s' xx => ?_) PassesOwn.looking).run [] s σ H D (I.toTry _) h
  · refine wpAny_Try_except (wpAny_mono run (fun f s1 hsp => ?_) fun e s1 he => he)
    cases f with
    | next => obtain ⟨σ', H', J, q⟩ := hsp; exact wpAny_execs_nil ⟨σ', H', J.ofTry ok, q⟩
    | brk => obtain ⟨σ', H', J, q⟩ := hsp; exact ⟨σ', H', J.ofTry ok, q⟩
    | cont => obtain ⟨σ', H', J, q⟩ := hsp; exact ⟨σ', H', J.ofTry ok, q⟩
    | ret u => obtain ⟨v, σ', H', J, r, q⟩ := hsp; exact ⟨v, σ', H', J.ofTry ok, r, q⟩
  · obtain ⟨a, B, sI, pins', σ', H', cls, d, rfl, J', nb, up, sky, na, os, ag, b, hb1, hyes, hno⟩ := xx
    have J : Inv X pins σ' H' sI := J'.ofTry ok
    rw [show (X.tr (X.pn ++ pins) _).stack = X.env :: X.outer from hs] at sky
    show wpAny (model X.prog X.w) X.A (noteFrame (.ref a) X.env) _ _ _
    refine Sky.land Zc.steady hfr hf sky fun h3 fl3 up3 => ?_
    have J3 : Inv X pins σ' H' { s' with heap := h3 } := J.landed nb fl3.1 (up.trans up3) os ag
    obtain ⟨oe3, vs3, he3, hz3, hd3⟩ := fl3.there
    have nfr : a ∉ frs (X.env :: X.outer) := fun hm => by
      obtain ⟨_, o', e', hnf⟩ := fl3.2.2.1.mem hm
      rw [he3] at e'; cases e'
      exact hnf _ hd3
    have aI : sI.heap.get? a = none := by
      cases q : sI.heap.get? a with
      | none => rfl
      | some o =>
        have z := nb a o q (by rw [show frs (X.tr (X.pn ++ pins) _).stack = frs X.stack from rfl, hs]; exact nfr)
        rw [fl3.2.1] at z; cases z
    have nL : a ≠ X.env.locals := fun z => nfr (List.mem_filterMap.mpr ⟨X.env, List.mem_cons_self, by rw [hf, z]⟩)
    have nF : a ∉ X.fs := fun hm => by
      obtain ⟨e, he, q⟩ := List.mem_filterMap.mp hm
      exact nfr (List.mem_filterMap.mpr ⟨e, List.mem_cons_of_mem _ he, q⟩)
    have S3 := J3.suite he3 hd3 na nL nF
    have LT : PySem.W.Looks (model X.prog X.w) h3 (typeOf (.ref a)) cls := fun A Q E s k q => wpAny_typeOf_ref (k _ _ he3) (by rw [hz3.1]; exact q)
    refine PySem.W.exc_clause_as (ht a _ [] σ' H' { s' with heap := h3 } cls b _ _ S3 hb1 LT fun c h4 t4 k4 LM => ⟨b, LM, ?_⟩)
    have fl4 : HandSPX.FlyingZ B (X.env :: X.outer) a (Zc cls d) h4 := flying_keeps fl3 k4
    have up4 : sI.heap.UpToSlots h4 := (up.trans up3).trans (Heap.UpToSlots.of_keeps k4)
    cases b with
    | false =>
      show wpAny _ X.A (handleBy (.ref a) X.env []) _ _ _
      refine wpAny_handleBy_nil ?_
      obtain ⟨k1, k2, k3, oe, vs, T, oT, ts', he, hz, hd, h1, hr⟩ := id fl4
      unfold PySem.passOn
      refine wpAny_bind (wpAny_field he hd h1 ?_)
      rw [if_neg (show ¬ ((Value.ref T == Value.none) = true) from by simp)]
      have fin : wpAny (model X.prog X.w) X.A (setFlight (.ref a) X.env.frame) (fun _ s4 => wpAny (model X.prog X.w) X.A (throw (.ref a) : Sem Flow) (SP X pins D) X.xe s4) X.xe { s' with heap := h4, toks := t4 } := by
        rw [hf]
        refine HandSPX.setFlight_upZ fl4 fun h5 hh5 up5 => wpAny_throw (tk _ _ ?_)
        exact ⟨a, B, sI, pins, σ', H', cls, d, rfl, J, nb, up4.trans up5, .inr (.inr (by rw [hs]; exact hh5)), na, os, ag, hno rfl⟩
      first
        | exact wpAny_bind (wpAny_pure (wpAny_bind fin))
        | exact wpAny_bind fin
    | true =>
      refine HandSPX.lands_againZ fl4 fun h5 fl5 up5 => ?_
      have J5 : Inv X pins σ' H' { s' with heap := h5, toks := t4 } := J.landed nb fl5.1 (up4.trans up5) os ag
      obtain ⟨oe5, vs5, he5, hz5, hd5⟩ := fl5.there
      have T5 := inv_track J aI J5 he5 hz5 hd5 na hex
      refine store_ok (X := X.suite a (X.pn ++ pins)) (v := .ref a) (inv_suite0 T5 a) hN hi hloc rfl (fun s6 S6 => ?_) (.inr hln)
      refine wpAny_mono ((hsu a cls d (X.pn ++ pins)).run [] s6 _ _ _ S6 (hyes rfl a na)) (fun f s7 hsp => ?_) (fun _ _ z => False.elim z)
      have end_ : ∀ {σ6 : L2.St} {H6 : Hp} {Q : Shared → Prop}, Inv (X.suite a (X.pn ++ pins)) [] σ6 H6 s7 → (∀ s8, Inv X pins (σ6.set i none) H6 s8 → Q s8) →
          wpAny (model X.prog X.w) X.A (do bindName X.env n .none; unbindBehindTheSuite X.env n pos') (fun _ s8 => Q s8) X.xe s7 := fun {σ6 H6 Q} S6 hq => gone_ok (inv_unsuite0 S6 ok) hN hi hln hq
      cases f with
      | next => obtain ⟨σ6, H6, S6, q6⟩ := hsp; exact end_ S6 fun s8 J8 => ⟨_, _, J8, q6⟩
      | brk => obtain ⟨σ6, H6, S6, q6⟩ := hsp; exact end_ S6 fun s8 J8 => ⟨_, _, J8, q6⟩
      | cont => obtain ⟨σ6, H6, S6, q6⟩ := hsp; exact end_ S6 fun s8 J8 => ⟨_, _, J8, q6⟩
      | ret u => obtain ⟨v6, σ6, H6, S6, r6, q6⟩ := hsp; exact end_ S6 fun s8 J8 => ⟨_, _, _, J8, r6, q6⟩
end

/-! ### try: .. except (A, B) as n: .. -/
def sufD (D : MD) (i : Nat) : MD := { nx := fun sm' h' => D.nx (sm'.set i none) h', rt := D.rt, bk := fun sm' h' => D.bk (sm'.set i none) h', ct := fun sm' h' => D.ct (sm'.set i none) h', xc := fun _ _ _ => False }
def xcT (cs : List Str) (catches : Str → Bool) (i : Nat) (ws : MTS) (D : MD) : M → MS → MH → Prop := fun e sm1 h1 => ∃ C ks vs, e = .exc C ks vs ∧ C ∈ cs ∧ if catches C = true then ws (sufD D i) (sm1.set i (some e)) h1 else D.xc e sm1 h1
def wTryT (cs : List Str) (catches : Str → Bool) (i : Nat) (wb ws : MTS) : MTS := fun D sm h => wb { D with xc := xcT cs catches i ws D } sm h
section
variable {X : Cx} {W : WX} {k : Nat}
theorem cm_tr (c : CM X W k) {W' : WX} {pn : List (Addr × Obj)} {xe : Value → Shared → Prop} (tk : Takes (X.tr pn xe) W') (po : PassesOwn (model X.prog X.w) X.A X.env xe) : CM (X.tr pn xe) W' k := ⟨c.calm, tk, po, c.rm, c.sm, c.nd⟩
theorem s_tryT {cs : List Str} {catches : Str → Bool} {n : Str} {i : Nat} {body suite : List Stmt} {b₀ : Stmt} {t : Expr} {pos pos' : Pos} {ans : Value → Bool → Prop} {wb ws : MTS} (hans : ∀ C ∈ cs, ans (.ref (He.ga X.K C)) (catches C)) (ht : ExTest X t ans) (cm : CM X W k)
    (hs : X.stack = X.env :: X.outer) (hf : X.env.frame = some X.env.locals) (hex : X.ex = []) (hi : X.N[i]? = some n) (hln : X.env.kindOf n = some .local)
    (hb : ∀ (W' : WX) (pn : List (Addr × Obj)) (xe : Value → Shared → Prop), CM (X.tr pn xe) W' k → SsOk (X.tr pn xe) W' body wb)
    (hsu : ∀ (a : Addr) (pn : List (Addr × Obj)), SsOk (X.suite a pn) W0 (b₀ :: suite) ws) :
    SOk X W (.Try body [.ExceptHandler (some t) (some n) (b₀ :: suite) pos'] [] [] pos) (wTryT cs catches i wb ws) :=
  PS.mono (ps_tryT (tb := fun W' => liftS X.K W' wb) (ts := fun _ _ _ => liftS X.K W0 ws) hs hf hex cm.nd hi hln ht cm.tk (fun W' pn xe tk po => hb W' pn xe (cm_tr cm tk po)) fun a cls d pn => hsu a pn) fun D σ H ⟨f, sm, mh, D', a, q⟩ => by
    refine ⟨f, sm, mh, { D' with xc := xcT cs catches i ws D' }, ⟨a.h, a.s, a.nx, a.rt, a.bk, a.ct, ?_⟩, q⟩
    rintro cls d σ' H' ⟨f1, mh1, sm1, C, ks, ms, us, dx, p1, x1, r1, s1, e1, e2, e3, l, rv, C', ks', ms', e4, hC, q1⟩
    cases e4
    subst e1 e2
    have b1 := a.step p1 x1 r1 s1
    refine ⟨catches C, hans C hC, fun hc ad hna => ?_, fun hc => ?_⟩
    · rw [if_pos hc] at q1
      have x2 : Ext H' (upd H' ad (ExO ad (.ref (He.ga X.K C)) (some dx))) := Ext.new hna
      have nd : dx ≠ ad := fun z => by rw [z, hna] at e3; cases e3
      refine ⟨f1, sm1.set i (some (.exc C ks ms)), mh1, _, ⟨r1.new hna, (s1.mono (List.prefix_refl _) x2).set ⟨ad, dx, us, rfl, upd_same, (upd_ne nd).trans e3, l, rv.mono (List.prefix_refl _) x2⟩, ?_, ?_, ?_, ?_, ?_⟩, q1⟩
      · rintro σ2 H2 ⟨f2, mh2, sm2, p2, y2, r2, s2, q2⟩
        exact b1.nx _ _ ⟨f2, mh2, _, p2, x2.trans y2, r2, s2.unset, q2⟩
      · rintro v H2 z
        exact b1.rt _ _ (z.back (List.prefix_refl _) x2)
      · rintro σ2 H2 ⟨f2, mh2, sm2, p2, y2, r2, s2, q2⟩
        exact b1.bk _ _ ⟨f2, mh2, _, p2, x2.trans y2, r2, s2.unset, q2⟩
      · rintro σ2 H2 ⟨f2, mh2, sm2, p2, y2, r2, s2, q2⟩
        exact b1.ct _ _ ⟨f2, mh2, _, p2, x2.trans y2, r2, s2.unset, q2⟩
      · rintro cls d σ2 H2 ⟨_, _, _, _, _, _, _, _, _, _, _, _, _, _, _, _, _, z⟩
        exact z.elim
    · rw [if_neg (by rw [hc]; simp)] at q1
      exact b1.xc _ _ _ _ ⟨f1, mh1, sm1, C, ks, ms, us, dx, List.prefix_refl _, Ext.refl _, r1, s1, rfl, rfl, e3, l, rv, q1⟩
end

/-! ### what a caught exception tells -/
/-- what the class must have for its instances to be looked at -/
structure ExcK (K : PySem.W.Frag) (D : Addr) : Prop where
  cl : (PySem.W.clsIn K D).isSome = true
  hg : PySem.W.findIn K (.ref D) "__getattribute__" = some (some (.builtin "BaseException.__getattribute__"))
  hk : PySem.W.findIn K (.ref D) "__getattr__" = some none
  hs : PySem.W.subIn K (.ref D) (.type "BaseException") = some true
  hd : PySem.W.hasDictIn K D = true
  ha : PySem.W.findIn K (.ref D) "__class__" = some (some (.builtin "object.__class__"))
  hn : PySem.W.specialIn K (.builtin "object.__class__") "__get__" = some (some (.builtin "getset_descriptor.__get__"))
  ht : PySem.W.takesIn K (.builtin "object.__class__") = some true
  hm : PySem.W.mroIn K D (.type "object") = some true
section
variable {X : Cx} {pins : List (Addr × Obj)} {σ : L2.St} {H : Hp} {s : Shared}
theorem exo_inst {a d D : Addr} {fs : List (Str × V)} (I : Inv X pins σ H s) (ea : H a = some (ExO a (.ref D) (some d))) (ed : H d = some (.xd fs)) :
    ∃ oe od, PySem.W.InstAt s.heap a oe D (some od) ∧ ∃ mA : Str → Option Value, (∀ f, RelO (fs.lookup f) (mA f)) ∧ ∀ n, PySem.W.lookIn n od = some (mA n) := by
  obtain ⟨⟨oe, vs, h1, h2, h3, h4⟩, _, _⟩ := I.hok a _ ea
  obtain ⟨mA, hns, hr⟩ := I.hok d _ ed
  obtain ⟨od, ho, hl⟩ := lookIn_ns hns
  exact ⟨oe, od, ⟨h1, h2, by unfold PySem.W.notCls; rw [h4] <;> rfl, by rw [h3]; exact ho⟩, mA, hr, hl⟩
end

/-! ### isinstance(e, C), e.f -/
def fldOf : List Str → List M → Str → Option M
  | k :: ks, m :: ms, n => if n = k then some m else fldOf ks ms n
  | _, _, _ => none
theorem fld_rel {K : PySem.W.Frag} {f : List Addr} {H : Hp} : ∀ {ks : List Str} {ms : List M} {us : List V} {n : Str} {m : M}, RVs K f H ms us → fldOf ks ms n = some m → ∃ v, (ks.zip us).lookup n = some v ∧ RV K f H m v
  | [], _, _, _, _, _, h => by unfold fldOf at h; cases h
  | _ :: _, [], _, _, _, _, h => by unfold fldOf at h; cases h
  | k :: ks, m :: ms, us, n, m', ⟨v, r, e, h1, h2⟩, h => by
    subst e
    unfold fldOf at h
    rw [List.zip_cons_cons]
    by_cases hn : n = k
    · rw [if_pos hn] at h
      cases h
      subst hn
      exact ⟨v, by rw [List.lookup_cons_self], h1⟩
    · rw [if_neg hn] at h
      obtain ⟨w, a, b⟩ := fld_rel h2 h
      refine ⟨w, ?_, b⟩
      rw [List.lookup_cons, show (n == k) = false from by simpa using hn]
      exact a
section
variable {X : Cx} {W : WX}
/-- e.f, e a caught exception -/
theorem m_xfld {cs : List Str} {e : Expr} {we : MTE} {n : Str} {pos : Pos} (T : ∀ C ∈ cs, ExcK X.K (He.ga X.K C) ∧ PySem.W.findIn X.K (.ref (He.ga X.K C)) n = some none) (he : EOk X W e we) (hb : attributeBase e n X.env (eval e X.env) = eval e X.env := by rfl) :
    EOk X W (.Attribute e n pos) (fun sm h Q E => we sm h (fun x h1 => ∃ C ks ms m, x = .exc C ks ms ∧ C ∈ cs ∧ fldOf ks ms n = some m ∧ Q m h1) E) := by
  refine ⟨fun pins s σ H Q I h => ?_⟩
  obtain ⟨f, sm, mh, Q', E, a, q, k⟩ := h
  refine attr_of hb (thn (PE.run' he pins s σ H (fun v H1 => ∃ f1 mh1 C ks ms m, f <+: f1 ∧ Ext H H1 ∧ RH X.K f1 mh1 H1 ∧ RV X.K f1 H1 (.exc C ks ms) v ∧ C ∈ cs ∧ fldOf ks ms n = some m ∧ Q' m mh1) I (a.go q ?_)) fun u s1 hh => ?_)
  · rintro f1 mh1 H1 m v p x a1 r1 ⟨C, ks, ms, m', rfl, hC, hf, q1⟩
    exact ⟨f1, mh1, C, ks, ms, m', p, x, a1.h, r1, hC, hf, q1⟩
  obtain ⟨v, H1, I1, rx, f1, mh1, C, ks, ms, m, p, x, r1, ⟨ad, d, us, rfl, ea, ed, hl, rv⟩, hC, hf, q1⟩ := hh
  obtain rfl : u = Value.ref ad := rx
  obtain ⟨oe, od, J, mA, hr, hlk⟩ := exo_inst I1 ea ed
  obtain ⟨w, hw, rw'⟩ := fld_rel rv hf
  obtain ⟨T1, T2⟩ := T C hC
  obtain ⟨u, hu, ru⟩ := RelO.some_of (v := w) (o := mA n) (by rw [← hw]; exact hr n)
  exact HandSPX.exc_get I1.kIn J T1.hg T1.hk T1.hs (PySem.W.findObj_own T1.hd T2 rfl (by rw [hlk, hu])) (handed_of ru) ⟨w, H1, I1.tok _, ru, k _ _ ⟨f1, mh1, m, p, x, r1, rw', q1⟩⟩
end
end Mn
end
section
set_option maxHeartbeats 2000000
namespace Mn
open PySem PySem.Spec PyProof.Rows L2

/-! ### calls of built-in functions -/
abbrev MF := List M → MH → KM → Prop
def wFn (m : MF) (wa : MTA) : MTE := fun sm h Q E => wa sm h (fun ms h1 => m ms h1 Q) E
section
variable {X : Cx} {W : WX} {x : Str} {p pos : Pos} {e : Expr} {es : List Expr} {wa : MTA} {r : List V → Hp → VK → Prop} {m : MF}
theorem fn_rd {r : List V → Hp → VK → Prop} {m : MF} (l : LsR X.K r m) {wa : MTA} {σ : L2.St} {H : Hp} {Q : VK} (h : liftE X.K W (wFn m wa) σ H Q) : tCB r (liftA X.K W wa) σ H Q := by
  obtain ⟨f, sm, mh, Q', E, a, q, k⟩ := h
  exact a.goA q fun f1 mh1 H1 ms vs p x a1 r1 q1 => l f1 mh1 H1 ms vs Q' Q a1.h r1 q1 fun v H' z => k v H' (z.back p x)
theorem m_fnB {id : String} (hc : CallR X (.builtin id) r) (l : LsR X.K r m) (hg : Gl X x) (hm : X.mg x = none) (hv : bootBuiltins x = some (.builtin id)) (ha : AOk X W (e :: es) wa) (hn : x ≠ "__name__" := by decide) (hdb : (x == ("__debug__" : Str)) = false := by decide)
    (hs : starEach (e :: es) X.env = (false, eval e X.env) :: starEach es X.env := by rfl) (hpl : (backTo pos (starEach es X.env)).any (·.1) = false := by rfl) : EOk X W (.Call (.Name x p) (e :: es) [] pos) (wFn m wa) :=
  PE.mono (pe_callB hc hg hm hv ha hn hdb hs hpl) fun σ H Q h => fn_rd l h
theorem m_fnT {T : String} (hc : CallR X (.type T) r) (l : LsR X.K r m) (hg : Gl X x) (hm : X.mg x = none) (hv : bootBuiltins x = some (.type T)) (ha : AOk X W (e :: es) wa) (hn : x ≠ "__name__" := by decide) (hdb : (x == ("__debug__" : Str)) = false := by decide)
    (hs : starEach (e :: es) X.env = (false, eval e X.env) :: starEach es X.env := by rfl) (hpl : (backTo pos (starEach es X.env)).any (·.1) = false := by rfl) : EOk X W (.Call (.Name x p) (e :: es) [] pos) (wFn m wa) :=
  PE.mono (pe_callTy hc hg hm hv ha hn hdb hs hpl) fun σ H Q h => fn_rd l h
end
section
variable {K : PySem.W.Frag} {f : List Addr} {H : Hp}
theorem RVs.one {m : M} {vs : List V} (h : RVs K f H [m] vs) : ∃ v, vs = [v] ∧ RV K f H m v := by
  obtain ⟨v, r, rfl, h1, rfl⟩ := h; exact ⟨v, rfl, h1⟩
theorem RVs.two {m n : M} {vs : List V} (h : RVs K f H [m, n] vs) : ∃ v u, vs = [v, u] ∧ RV K f H m v ∧ RV K f H n u := by
  obtain ⟨v, r, rfl, h1, u, s, rfl, h2, rfl⟩ := h; exact ⟨v, u, rfl, h1, h2⟩
end
/-! len -/
def lenM (h : MH) (m : M) : Option Nat := match m with
  | .str s => if s.length ≤ SZ then some s.length else none
  | .tup xs => some xs.length
  | .ref n => (itemsM h (.ref n)).map (·.length)
  | _ => none
def fLen : MF := fun ms h Q => ∃ m n, ms = [m] ∧ lenM h m = some n ∧ Q (.int n) h
theorem l_len {X : Cx} : LsR X.K (fun xs H Q => ∃ x n, xs = [x] ∧ LenV X.K x H n ∧ Q (.int n) H) fLen := by
  intro f mh H ms vs Q' Q r rvs q k
  obtain ⟨m, n, rfl, hn, q⟩ := q
  obtain ⟨v, rfl, rv⟩ := rvs.one
  refine ⟨v, n, rfl, ?_, k _ _ (QL.same r (m := .int n) rfl q)⟩
  have gen : ∀ m xs, itemsM mh m = some xs → xs.length = n → RV X.K f H m v → LenV X.K v H n := by
    intro m xs hx hn rv
    subst hn
    obtain ⟨a, us, rfl, s, rr⟩ := items_rd r rv hx
    rcases s with s | s
    · exact .inl ⟨us, .inl s, rr.length⟩
    · exact .inr ⟨us, s, rr.length⟩
  unfold lenM at hn
  split at hn
  · rename_i s
    have e : v = .str s := rv
    subst e
    split at hn
    · rename_i hs
      have e2 := Option.some.inj hn
      subst e2
      exact ⟨by rw [SZ_eq]; exact hs, rfl⟩
    · exact absurd hn (by simp)
  · rename_i xs
    exact gen _ xs rfl (Option.some.inj hn) rv
  · rename_i k'
    obtain ⟨xs, hx, e⟩ := Option.map_eq_some_iff.mp hn
    exact gen _ xs hx e rv
  · exact absurd hn (by simp)
/-! min, max of two, abs, int -/
def fI2 (g : Int → Int → Int) : MF := fun ms h Q => ∃ i j, ms = [.int i, .int j] ∧ Q (.int (g i j)) h
def fMin2 : MF := fI2 fun i j => if j < i then j else i
def fMax2 : MF := fI2 fun i j => if j > i then j else i
theorem l_i2 {X : Cx} {g : Int → Int → Int} : LsR X.K (fun xs H Q => ∃ i j, xs = [.int i, .int j] ∧ Q (.int (g i j)) H) (fI2 g) := by
  intro f mh H ms vs Q' Q r rv q k
  obtain ⟨i, j, rfl, q⟩ := q
  obtain ⟨v, u, rfl, r1, r2⟩ := rv.two
  have e1 : v = .int i := r1
  have e2 : u = .int j := r2
  subst e1 e2
  exact ⟨i, j, rfl, k _ _ (QL.same r (m := .int _) rfl q)⟩
def fAbs : MF := fun ms h Q => ∃ i : Int, ms = [.int i] ∧ Q (.int (if i < 0 then -i else i)) h
theorem l_abs {X : Cx} : LsR X.K (fun xs H Q => ∃ i, xs = [.int i] ∧ Q (.int (if i < 0 then -i else i)) H) fAbs := by
  intro f mh H ms vs Q' Q r rv q k
  obtain ⟨i, rfl, q⟩ := q
  obtain ⟨v, rfl, r1⟩ := rv.one
  have e1 : v = .int i := r1
  subst e1
  exact ⟨i, rfl, k _ _ (QL.same r (m := .int _) rfl q)⟩
def fInt : MF := fun ms h Q => (∃ i : Int, ms = [.int i] ∧ Q (.int i) h) ∨ ∃ b : Bool, ms = [.bl b] ∧ Q (.int (if b then 1 else 0)) h
theorem l_int1 {X : Cx} : LsR X.K (fun xs H Q => (∃ i, xs = [.int i] ∧ Q (.int i) H) ∨ ∃ k, xs = [.bl k] ∧ Q (.int (if k then 1 else 0)) H) fInt := by
  intro f mh H ms vs Q' Q r rv q k
  rcases q with ⟨i, rfl, q⟩ | ⟨b, rfl, q⟩
  · obtain ⟨v, rfl, r1⟩ := rv.one
    have e1 : v = .int i := r1
    subst e1
    exact .inl ⟨i, rfl, k _ _ (QL.same r (m := .int _) rfl q)⟩
  · obtain ⟨v, rfl, r1⟩ := rv.one
    have e1 : v = .bl b := r1
    subst e1
    exact .inr ⟨b, rfl, k _ _ (QL.same r (m := .int _) rfl q)⟩
/-! list, tuple -/
def fList : MF := fun ms h Q => ∃ m xs, ms = [m] ∧ itemsM h m = some xs ∧ Q (.ref h.length) (h ++ [.lst xs])
theorem l_list {X : Cx} : LsR X.K (fun xs H Q => ∃ p ys, xs = [.ref p] ∧ (SqL X.K H p ys ∨ SqT X.K H p ys) ∧ ∀ l, H l = none → Q (.ref l) (upd H l (.lst ys))) fList := by
  intro f mh H ms vs Q' Q r rv q k
  obtain ⟨m, xs, rfl, hx, q⟩ := q
  obtain ⟨v, rfl, r1⟩ := rv.one
  obtain ⟨a, us, rfl, s, rr⟩ := items_rd r r1 hx
  exact ⟨a, us, rfl, s.imp (fun s => .inl s) id, fun l hl => k _ _ (QL.lst r rr hl q)⟩
def fTuple : MF := fun ms h Q => ∃ m xs, ms = [m] ∧ itemsM h m = some xs ∧ Q (.tup xs) h
theorem l_tuple {X : Cx} : LsR X.K (fun xs H Q => ∃ p ys, xs = [.ref p] ∧ ((SqL X.K H p ys ∧ ∀ l, H l = none → Q (.ref l) (upd H l (.tup ys))) ∨ (SqT X.K H p ys ∧ Q (.ref p) H))) fTuple := by
  intro f mh H ms vs Q' Q r rv q k
  obtain ⟨m, xs, rfl, hx, q⟩ := q
  obtain ⟨v, rfl, r1⟩ := rv.one
  obtain ⟨a, us, rfl, s, rr⟩ := items_rd r r1 hx
  refine ⟨a, us, rfl, s.imp (fun s => ⟨.inl s, fun l hl => k _ _ (QL.tup r rr hl q)⟩) fun s => ⟨s, k _ _ (QL.same r (m := .tup xs) ⟨a, us, rfl, s, rr⟩ q)⟩⟩
/-! sum, max, min, sorted, any, all of a list -/
def fSum : MF := fun ms h Q => ∃ (n : Nat) (is : List Int), ms = [.ref n] ∧ itemsM h (.ref n) = some (is.map M.int) ∧ Q (.int is.sum) h
theorem l_sum {X : Cx} : LsR X.K (rSum X.K) fSum := by
  intro f mh H ms vs Q' Q r rv q k
  obtain ⟨n, is, rfl, hx, q⟩ := q
  obtain ⟨v, rfl, r1⟩ := rv.one
  obtain ⟨a, us, rfl, s, rr⟩ := ref_rd r r1 hx
  have := rr.ints
  subst this
  exact ⟨a, is, rfl, .inl s, k _ _ (QL.same r (m := .int _) rfl q)⟩
def fMaxL : MF := fun ms h Q => ∃ (n : Nat) (is : List Int), ms = [.ref n] ∧ itemsM h (.ref n) = some (is.map M.int) ∧ is ≠ [] ∧ ∀ m, m ∈ is → (∀ y ∈ is, y ≤ m) → Q (.int m) h
theorem l_maxL {X : Cx} : LsR X.K (rMax X.K) fMaxL := by
  intro f mh H ms vs Q' Q r rv q k
  obtain ⟨n, is, rfl, hx, ne, q⟩ := q
  obtain ⟨v, rfl, r1⟩ := rv.one
  obtain ⟨a, us, rfl, s, rr⟩ := ref_rd r r1 hx
  have := rr.ints
  subst this
  exact ⟨a, is, rfl, .inl s, List.length_pos_iff.mpr ne, fun m h1 h2 => k _ _ (QL.same r (m := .int _) rfl (q m h1 h2))⟩
def fMinL : MF := fun ms h Q => ∃ (n : Nat) (is : List Int), ms = [.ref n] ∧ itemsM h (.ref n) = some (is.map M.int) ∧ is ≠ [] ∧ ∀ m, m ∈ is → (∀ y ∈ is, m ≤ y) → Q (.int m) h
theorem l_minL {X : Cx} : LsR X.K (rMin X.K) fMinL := by
  intro f mh H ms vs Q' Q r rv q k
  obtain ⟨n, is, rfl, hx, ne, q⟩ := q
  obtain ⟨v, rfl, r1⟩ := rv.one
  obtain ⟨a, us, rfl, s, rr⟩ := ref_rd r r1 hx
  have := rr.ints
  subst this
  exact ⟨a, is, rfl, .inl s, List.length_pos_iff.mpr ne, fun m h1 h2 => k _ _ (QL.same r (m := .int _) rfl (q m h1 h2))⟩
def fSorted : MF := fun ms h Q => ∃ (n : Nat) (is : List Int), ms = [.ref n] ∧ itemsM h (.ref n) = some (is.map M.int) ∧ ∀ js : List Int, js.Perm is → js.Pairwise (· ≤ ·) → Q (.ref h.length) (h ++ [.lst (js.map M.int)])
theorem l_sorted {X : Cx} : LsR X.K (rSortedI X.K) fSorted := by
  intro f mh H ms vs Q' Q r rv q k
  obtain ⟨n, is, rfl, hx, q⟩ := q
  obtain ⟨v, rfl, r1⟩ := rv.one
  obtain ⟨a, us, rfl, s, rr⟩ := ref_rd r r1 hx
  have := rr.ints
  subst this
  exact ⟨a, is, rfl, .inl s, fun js p h1 h2 hp => k _ _ (QL.lst r (RVs.of_ints js) hp (q js h1 h2))⟩
theorem RVs.bls {K : PySem.W.Frag} {f : List Addr} {H : Hp} : ∀ {is : List Bool} {vs : List V}, RVs K f H (is.map M.bl) vs → vs = is.map V.bl
  | [], _, h => h
  | _ :: _, _, ⟨v, r, e, h, t⟩ => by subst e; cases h; simp [RVs.bls t]
def fAny : MF := fun ms h Q => ∃ (n : Nat) (bs : List Bool), ms = [.ref n] ∧ itemsM h (.ref n) = some (bs.map M.bl) ∧ Q (.bl (bs.any id)) h
theorem l_any {X : Cx} : LsR X.K (rAny X.K) fAny := by
  intro f mh H ms vs Q' Q r rv q k
  obtain ⟨n, is, rfl, hx, q⟩ := q
  obtain ⟨v, rfl, r1⟩ := rv.one
  obtain ⟨a, us, rfl, s, rr⟩ := ref_rd r r1 hx
  have := rr.bls
  subst this
  exact ⟨a, is, rfl, .inl s, k _ _ (QL.same r (m := .bl _) rfl q)⟩
def fAll : MF := fun ms h Q => ∃ (n : Nat) (bs : List Bool), ms = [.ref n] ∧ itemsM h (.ref n) = some (bs.map M.bl) ∧ Q (.bl (bs.all id)) h
theorem l_all {X : Cx} : LsR X.K (rAll X.K) fAll := by
  intro f mh H ms vs Q' Q r rv q k
  obtain ⟨n, is, rfl, hx, q⟩ := q
  obtain ⟨v, rfl, r1⟩ := rv.one
  obtain ⟨a, us, rfl, s, rr⟩ := ref_rd r r1 hx
  have := rr.bls
  subst this
  exact ⟨a, is, rfl, .inl s, k _ _ (QL.same r (m := .bl _) rfl q)⟩
end Mn
end
section
set_option maxHeartbeats 2000000
namespace Mn
open PySem PySem.Spec PyProof.Rows L2

/-! ### displays, constants, globals -/
def wLst (wa : MTA) : MTE := fun sm h Q E => wa sm h (fun ms h1 => ms.length ≤ SZ ∧ Q (.ref h1.length) (h1 ++ [.lst ms])) E
def wTup (wa : MTA) : MTE := fun sm h Q E => wa sm h (fun ms h1 => ms.length ≤ SZ ∧ Q (.tup ms) h1) E
def wDct0 : MTE := fun sm h Q E => Q (.ref h.length) (h ++ [.dct []])
section
variable {X : Cx} {W : WX} {es : List Expr} {wa : MTA} {pos : Pos}
theorem m_lst (ha : AOk X W es wa) : EOk X W (.List es pos) (wLst wa) :=
  PE.mono (pe_lst ha) fun σ H Q ⟨f, sm, mh, Q', E, a, q, k⟩ => a.goA q fun f1 mh1 H1 ms vs p x a1 r1 ⟨sz, q1⟩ =>
    ⟨by rw [SZ_eq, ← r1.length]; exact sz, fun ad hp => k _ _ ((QL.lst a1.h r1 hp q1).back p x)⟩
theorem m_tup {x1 : Nat} (ha : AOk X W es wa) : EOk X W (.Tuple es x1 pos) (wTup wa) :=
  PE.mono (pe_tup ha) fun σ H Q ⟨f, sm, mh, Q', E, a, q, k⟩ => a.goA q fun f1 mh1 H1 ms vs p x a1 r1 ⟨sz, q1⟩ =>
    ⟨by rw [SZ_eq, ← r1.length]; exact sz, fun ad hp => k _ _ ((QL.tup a1.h r1 hp q1).back p x)⟩
theorem m_dct0 : EOk X W (.Dict [] [] pos) wDct0 :=
  PE.mono pe_dnewK fun σ H Q ⟨f, sm, mh, Q', E, a, q, k⟩ => fun ad hp => by
    have x : Ext H (upd H ad (.dK [])) := Ext.new hp
    have q : Q' (.ref mh.length) (mh ++ [.dct []]) := q
    refine k _ _ ⟨f ++ [ad], mh ++ [.dct []], .ref mh.length, List.prefix_append _ _, x, a.h.alloc (o := .dct []) hp ⟨[], upd_same, rfl⟩, ⟨ad, rfl, ?_⟩, q⟩
    rw [List.getElem?_append_right (by rw [a.h.len]; exact Nat.le_refl _), a.h.len]; simp
variable {i : Int} {j : Nat} {b : Bool} {s : Str} {x : Str}
theorem m_int : EOk X W (.Constant (.int i) j pos) (wCon (.int i)) := m_con pe_int fun _ _ => rfl
theorem m_bl : EOk X W (.Constant (.bool b) j pos) (wCon (.bl b)) := m_con pe_bl fun _ _ => rfl
theorem m_non : EOk X W (.Constant .none j pos) (wCon .non) := m_con pe_non fun _ _ => rfl
theorem m_str : EOk X W (.Constant (.str s) j pos) (wCon (.str s)) := m_con pe_str fun _ _ => rfl
theorem m_gint {t : Tok} (hg : Gl X x) (hm : X.mg x = some (.int i t)) (hdb : (x == ("__debug__" : Str)) = false := by decide) : EOk X W (.Name x pos) (wCon (.int i)) := m_con (pe_glob (v := .int i) hg hm ⟨t, rfl⟩ hdb) fun _ _ => rfl
theorem m_ty {T : String} (hg : Gl X x) (hm : X.mg x = none) (hv : bootBuiltins x = some (.type T)) (hn : x ≠ "__name__" := by decide) (hdb : (x == ("__debug__" : Str)) = false := by decide) : EOk X W (.Name x pos) (wCon (.ty T)) := m_con (pe_bltn (v := .ty T) hg hm hv rfl hn hdb) fun _ _ => rfl
theorem m_cls (hg : Gl X x) (hm : X.mg x = some (.ref (He.ga X.K x))) (hdb : (x == ("__debug__" : Str)) = false := by decide) : EOk X W (.Name x pos) (wCon (.glo x)) := m_con (pe_glob (v := .ref (He.ga X.K x)) hg hm rfl hdb) fun _ _ => rfl
end

/-! ### isinstance -/
def tyM (h : MH) (m : M) : Option String := match m with
  | .non => some "NoneType"
  | .bl _ => some "bool"
  | .int _ => some "int"
  | .str _ => some "str"
  | .tup _ => some "tuple"
  | .ref n => match h[n]? with
    | some (.lst _) => some "list"
    | some (.rol _) => some "list"
    | some (.dct _) => some "dict"
    | _ => none
  | _ => none
def tyList : List String := ["NoneType", "bool", "int", "str", "tuple", "list", "dict"]
def isa (t T : String) : Bool := t == T || (t == "bool" && T == "int")
theorem kit_tab : ∀ t ∈ tyList, ∀ T ∈ tyList, kitB t T = some (isa t T) := by decide +kernel
theorem tyM_ok {K : PySem.W.Frag} {f : List Addr} {mh : MH} {H : Hp} (r : RH K f mh H) {m : M} {v : V} {t : String} (rv : RV K f H m v) (h : tyM mh m = some t) : TyX K H v (.type t) ∧ t ∈ tyList := by
  unfold tyM at h
  split at h
  · cases h; have e : v = .non := rv; subst e; exact ⟨.base .non, by decide⟩
  · cases h; have e : v = .bl _ := rv; subst e; exact ⟨.base (.bl _), by decide⟩
  · cases h; have e : v = .int _ := rv; subst e; exact ⟨.base (.int _), by decide⟩
  · cases h; have e : v = .str _ := rv; subst e; exact ⟨.base (.str _), by decide⟩
  · cases h
    obtain ⟨a, vs, rfl, s, _⟩ := rv
    rcases s with (s | ⟨o, s⟩) | ⟨o, its, n, hk, hc, _⟩
    · exact ⟨.base (.tup s), by decide⟩
    · exact ⟨.fTuple s, by decide⟩
    · exact ⟨.kTuple hk hc, by decide⟩
  · rename_i n
    obtain ⟨a, rfl, ha⟩ := rv
    split at h
    · rename_i xs e
      cases h
      obtain ⟨b, hb, vs, e1, _⟩ := r.at e
      rw [ha] at hb; cases hb
      exact ⟨.base (.lst e1), by decide⟩
    · rename_i xs e
      cases h
      obtain ⟨b, hb, o, vs, e1, _⟩ := r.at e
      rw [ha] at hb; cases hb
      exact ⟨.base (.frz e1), by decide⟩
    · rename_i xs e
      cases h
      obtain ⟨b, hb, ks, e1, _⟩ := r.at e
      rw [ha] at hb; cases hb
      exact ⟨.base (.dK e1), by decide⟩
    · cases h
  · cases h
/-- what the class's value is -/
def clsVal (K : PySem.W.Frag) (m : M) : Option Value := match m with
  | .ty n => some (.type n)
  | .glo x => some (.ref (He.ga K x))
  | _ => none
/-- the answers for exceptions: xt C c -/
def XtOk (K : PySem.W.Frag) (xt : Str → M → Option Bool) : Prop := ∀ C c b, xt C c = some b → ExcK K (He.ga K C) ∧ ∃ u, clsVal K c = some u ∧ PySem.W.kitOne K (.ref (He.ga K C)) u = some b
def isiM (xt : Str → M → Option Bool) (h : MH) (ms : List M) : Option Bool := match ms with
  | [.exc C _ _, c] => xt C c
  | [m, .ty T] => match tyM h m with
    | some t => if T ∈ tyList then some (isa t T) else none
    | none => none
  | _ => none
def fIsi (xt : Str → M → Option Bool) : MF := fun ms h Q => ∃ b, isiM xt h ms = some b ∧ Q (.bl b) h
def rIsiA (K : PySem.W.Frag) : List V → Hp → VK → Prop := fun xs H Q => rIsi K xs H Q ∨
  ∃ a D d fs c u b, xs = [.ref a, c] ∧ ExcK K D ∧ H a = some (ExO a (.ref D) (some d)) ∧ H d = some (.xd fs) ∧ ClsV c u ∧ PySem.W.kitOne K (.ref D) u = some b ∧ Q (.bl b) H
theorem call_isiA {X : Cx} : CallR X (.builtin "isinstance") (rIsiA X.K) := by
  intro pins s σ H xs us Q I r h
  rcases h with h | ⟨a, D, d, fs, c, u, b, rfl, T, ea, ed, k, e, q⟩
  · exact call_isi pins s σ H xs us Q I r h
  · obtain ⟨u1, u2, rfl, r1, r2⟩ := vals2 r
    have e2 := k.eq r2
    subst e2
    obtain rfl : u1 = Value.ref a := r1
    obtain ⟨oe, od, J, _⟩ := exo_inst I ea ed
    exact PySem.W.kia_one (PySem.W.kitx_exc T.cl T.hg T.hk T.hs T.ha T.hn T.ht T.hm) I.kIn J e (fun z => nomatch z) fun tk => ⟨.bl b, H, I.tok tk, rfl, q⟩
theorem l_isi {X : Cx} {xt : Str → M → Option Bool} (hx : XtOk X.K xt) : LsR X.K (rIsiA X.K) (fIsi xt) := by
  intro f mh H ms vs Q' Q r rvs q k
  obtain ⟨b, hb, q⟩ := q
  have fin : Q (.bl b) H := k _ _ (QL.same r (m := .bl b) rfl q)
  unfold isiM at hb
  split at hb
  · rename_i C ks ms' c
    obtain ⟨T, u, hu, he⟩ := hx _ _ _ hb
    obtain ⟨v, w, rfl, ⟨ad, d, us, rfl, ea, ed, hl, rv⟩, rc⟩ := rvs.two
    refine .inr ⟨ad, _, d, _, w, u, b, rfl, T, ea, ed, ?_, he, fin⟩
    unfold clsVal at hu
    split at hu
    · cases hu; have e : w = .ty _ := rc; subst e; exact .ty _
    · cases hu; have e : w = .ref _ := rc; subst e; exact .own _
    · cases hu
  · rename_i m T _
    obtain ⟨v, w, rfl, rv, rc⟩ := rvs.two
    have e : w = .ty T := rc
    subst e
    split at hb
    · rename_i t ht
      split at hb
      · rename_i hT
        cases hb
        obtain ⟨ty, hm⟩ := tyM_ok r rv ht
        exact .inl ⟨v, .ty T, .type t, .type T, _, rfl, .ty T, ty, kit_ty (kit_tab t hm T hT), fin⟩
      · cases hb
    · cases hb
  · cases hb

/-! ### repr -/
/-- Reads of data as the small heap has them -/
theorem sys_free {X : Cx} {pins : List (Addr × Obj)} {σ : L2.St} {H : Hp} {s : Shared} (I : Inv X pins σ H s) (hs : ∃ o, X.K.lookup sysModules = some o) {a : Addr} {o : HO} (h : H a = some o) : a ≠ sysModules := by
  rintro rfl
  obtain ⟨o', hk⟩ := hs
  have z := (I.bs _ _ (I.ok.mod.kin _ _ hk)).2
  rw [h] at z; cases z
theorem pd_depth (mh : MH) : ∀ (n : Nat) (m : M) (d : PyData), pd mh n m = some d → d.depth ≤ n := by
  intro n
  have all : ∀ (n : Nat), (∀ (m : M) (d : PyData), pd mh n m = some d → d.depth ≤ n) → ∀ (xs : List M) (ds : List PyData), pdL (pd mh n) xs = some ds → PyData.depthAll ds ≤ n := by
    intro n ih xs
    induction xs with
    | nil => intro ds h; cases h; exact Nat.zero_le _
    | cons x xs ihx =>
      intro ds h
      obtain ⟨d, rd, rfl, h1, h2⟩ := pdL_cons h
      exact Nat.max_le.mpr ⟨ih x d h1, ihx rd h2⟩
  induction n with
  | zero =>
    intro m d h
    cases m with
    | non => cases h; exact Nat.zero_le _
    | bl b => cases h; exact Nat.zero_le _
    | int i => cases h; exact Nat.zero_le _
    | str s => cases h; exact Nat.zero_le _
    | _ => cases h
  | succ n ih =>
    intro m d h
    cases m with
    | non => cases h; exact Nat.zero_le _
    | bl b => cases h; exact Nat.zero_le _
    | int i => cases h; exact Nat.zero_le _
    | str s => cases h; exact Nat.zero_le _
    | tup xs =>
      have h : (pdL (pd mh n) xs).map PyData.tuple = some d := h
      obtain ⟨ds, h1, rfl⟩ := Option.map_eq_some_iff.mp h
      exact Nat.succ_le_succ (all n ih xs ds h1)
    | ref k =>
      have h : (match mh[k]? with | some (.lst xs) => (pdL (pd mh n) xs).map PyData.list | some (.dct []) => some (.dict []) | _ => none) = some d := h
      split at h
      · obtain ⟨ds, h1, rfl⟩ := Option.map_eq_some_iff.mp h
        exact Nat.succ_le_succ (all n ih _ ds h1)
      · cases h; exact Nat.succ_le_succ (Nat.zero_le _)
      · cases h
    | _ => cases h
theorem pd_reads {X : Cx} {pins : List (Addr × Obj)} {σ : L2.St} {H : Hp} {s : Shared} {f : List Addr} {mh : MH} (I : Inv X pins σ H s) (hs : ∃ o, X.K.lookup sysModules = some o) (r : RH X.K f mh H) :
    ∀ (n : Nat) (m : M) (d : PyData) (v : V) (u : Value), pd mh n m = some d → RV X.K f H m v → RelV v u → ∃ as, Reads s.heap u d as ∧ sysModules ∉ as := by
  intro n
  have all : ∀ (n : Nat), (∀ (m : M) (d : PyData) (v : V) (u : Value), pd mh n m = some d → RV X.K f H m v → RelV v u → ∃ as, Reads s.heap u d as ∧ sysModules ∉ as) →
      ∀ (xs : List M) (ds : List PyData) (vs : List V) (us : List Value), pdL (pd mh n) xs = some ds → RVs X.K f H xs vs → Vals vs us → ∃ as, ReadsAll s.heap us ds as ∧ sysModules ∉ as := by
    intro n ih xs
    induction xs with
    | nil => intro ds vs us h rv ru; cases h; cases rv; cases ru; exact ⟨_, .nil, by simp⟩
    | cons x xs ihx =>
      intro ds vs us h rv ru
      obtain ⟨d, rd, rfl, h1, h2⟩ := pdL_cons h
      obtain ⟨v, rr, rfl, r1, r2⟩ := rv
      cases ru with
      | cons u1 u2 =>
        obtain ⟨as, q1, n1⟩ := ih x d v _ h1 r1 u1
        obtain ⟨bs, q2, n2⟩ := ihx rd rr _ h2 r2 u2
        exact ⟨_, .cons q1 q2, by simp [n1, n2]⟩
  have flat : ∀ (n : Nat) (m : M) (d : PyData) (v : V) (u : Value), (∀ xs, m ≠ .tup xs) → (∀ k, m ≠ .ref k) → pd mh n m = some d → RV X.K f H m v → RelV v u → ∃ as, Reads s.heap u d as ∧ sysModules ∉ as := by
    intro n m d v u n1 n2 h rv ru
    have h0 : pd mh n m = pd mh 0 m := by
      cases n with
      | zero => rfl
      | succ n => cases m <;> first | rfl | exact absurd rfl (n1 _) | exact absurd rfl (n2 _)
    rw [h0] at h
    cases m with
    | non => cases h; have e : v = .non := rv; subst e; cases (show u = Value.none from ru); exact ⟨_, .none, by simp⟩
    | bl b => cases h; have e : v = .bl b := rv; subst e; cases (show u = Value.bool b from ru); exact ⟨_, .bool b, by simp⟩
    | int i => cases h; have e : v = .int i := rv; subst e; obtain ⟨t, rfl⟩ := ru; exact ⟨_, .int i t, by simp⟩
    | str x => cases h; have e : v = .str x := rv; subst e; obtain ⟨t, rfl⟩ := ru; exact ⟨_, .str x t, by simp⟩
    | _ => cases h
  induction n with
  | zero =>
    intro m d v u h rv ru
    refine flat 0 m d v u ?_ ?_ h rv ru
    · rintro xs rfl; cases h
    · rintro k rfl; cases h
  | succ n ih =>
    intro m d v u h rv ru
    cases m with
    | tup xs =>
      have h : (pdL (pd mh n) xs).map PyData.tuple = some d := h
      obtain ⟨ds, h1, rfl⟩ := Option.map_eq_some_iff.mp h
      obtain ⟨a, vs, rfl, s, rr⟩ := rv
      cases (show u = Value.ref a from ru)
      obtain ⟨its, rv, ⟨o, ho, hc, n, hd⟩, _⟩ := I.tuple s
      obtain ⟨as, q1, n1⟩ := all _ ih xs ds vs its h1 rr rv
      exact ⟨_, .tuple ho hc hd q1, n1⟩
    | ref k =>
      have h : (match mh[k]? with | some (.lst xs) => (pdL (pd mh n) xs).map PyData.list | some (.dct []) => some (.dict []) | _ => none) = some d := h
      split at h
      · rename_i xs e
        obtain ⟨ds, h1, rfl⟩ := Option.map_eq_some_iff.mp h
        obtain ⟨a, vs, rfl, ha, e1, rr⟩ := r.lst e rv
        cases (show u = Value.ref a from ru)
        obtain ⟨its, rv, ⟨o, n, ho, hc, _, hd⟩, _⟩ := I.list (SqL.of e1)
        obtain ⟨as, q1, n1⟩ := all _ ih xs ds vs its h1 rr rv
        exact ⟨_, .list ho hc hd q1, by simp [n1, Ne.symm (sys_free I hs e1)]⟩
      · rename_i e
        cases h
        obtain ⟨a, rfl, ha⟩ := rv
        obtain ⟨b, hb, ks, e1, rk⟩ := r.at e
        rw [ha] at hb; cases hb
        have e2 : ks = [] := rk
        subst e2
        cases (show u = Value.ref a from ru)
        obtain ⟨_, _, vs, kv, o, es, ep, ho, ex, hd, _, hp, _⟩ := I.hok a _ e1
        cases kv
        have he : es.toList = [] := by generalize es.toList = l at hp; cases hp; rfl
        refine ⟨_, .dict (kvs := []) ho ex.1 hd (as := []) (bs := []) ?_ ?_, by simp [Ne.symm (sys_free I hs e1)]⟩
        · rw [he]; exact .nil
        · rw [he]; exact .nil
      · cases h
    | _ => exact flat _ _ d v u (by intro _ z; cases z) (by intro _ z; cases z) h rv ru
def RepOk (d : PyData) : Prop := d.showable = true ∧ d.shown.length ≤ SZ
def fRep : MF := fun ms h Q => ∃ m d, ms = [m] ∧ pd h 60 m = some d ∧ RepOk d ∧ Q (.str d.shown) h
def rRepA (X : Cx) : List V → Hp → VK → Prop := fun xs H Q => ∃ x f mh m d, xs = [x] ∧ RH X.K f mh H ∧ RV X.K f H m x ∧ pd mh 60 m = some d ∧ RepOk d ∧ Q (.str d.shown) H
theorem call_repA {X : Cx} {W : WX} {k : Nat} (c : CM X W k) : CallR X (.builtin "repr") (rRepA X) := by
  intro pins s σ H xs us Q I r h
  obtain ⟨x, f, mh, m, d, rfl, rh, rv, hd, ⟨sh, sz⟩, q⟩ := h
  obtain ⟨u, rfl, ru⟩ := vals1 r
  obtain ⟨as, hr, hn⟩ := pd_reads I c.sm rh 60 m d x u hd rv ru
  have hdp := pd_depth mh 60 m d hd
  have hu : X.A.units + (d.depth + 1) < cLine := by have := c.rm.r.un; omega
  rw [← SZ_eq] at sz
  cases hr with
  | none => exact P.repr_of_none ⟨.str _, H, I.tok _, ⟨_, rfl⟩, q⟩
  | bool b => exact P.repr_of_bool ⟨.str _, H, I.tok _, ⟨_, rfl⟩, q⟩
  | int i t => exact P.repr_of_int (by simpa [PyData.showable] using sh) ⟨.str _, H, I.tok _, ⟨_, rfl⟩, q⟩
  | str y t => exact P.repr_of_str ⟨.str _, H, I.tok _, ⟨_, rfl⟩, q⟩ sz
  | list e1 e2 e3 e4 => exact repr_of_reads' (.list e1 e2 e3 e4) sh (fun _ => hn) c.rm.g hu (fun _ _ z => z) (fun h' u tk k => ⟨.str _, H, I.kept k, ⟨_, rfl⟩, q⟩) sz
  | tuple e1 e2 e3 e4 => exact repr_of_reads' (.tuple e1 e2 e3 e4) sh (fun _ => hn) c.rm.g hu (fun _ _ z => z) (fun h' u tk k => ⟨.str _, H, I.kept k, ⟨_, rfl⟩, q⟩) sz
  | dict e1 e2 e3 e4 e5 => exact repr_of_reads' (.dict e1 e2 e3 e4 e5) sh (fun _ => hn) c.rm.g hu (fun _ _ z => z) (fun h' u tk k => ⟨.str _, H, I.kept k, ⟨_, rfl⟩, q⟩) sz
theorem l_rep {X : Cx} : LsR X.K (rRepA X) fRep := by
  intro f mh H ms vs Q' Q r rvs q k
  obtain ⟨m, d, rfl, hd, ok, q⟩ := q
  obtain ⟨v, rfl, rv⟩ := rvs.one
  exact ⟨v, f, mh, m, d, rfl, r, rv, hd, ok, k _ _ (QL.same r (m := .str _) rfl q)⟩
end Mn
end
section
set_option maxHeartbeats 2000000
namespace Mn
open PySem PySem.Spec PyProof.Rows L2

/-! ### methods of lists -/
abbrev MM := M → List M → MH → KM → Prop
def LmR (K : PySem.W.Frag) (r : V → List V → Hp → VK → Prop) (m : MM) : Prop := ∀ (f : List Addr) (mh : MH) (H : Hp) (x : M) (xv : V) (ms : List M) (vs : List V) (Q' : KM) (Q : VK), RH K f mh H → RV K f H x xv → RVs K f H ms vs → m x ms mh Q' → (∀ v H', QL K f H Q' v H' → Q v H') → r xv vs H Q
def wBm (m : MM) (wo : MTE) (wa : MTA) : MTE := fun sm h Q E => wo sm h (fun x h1 => (∃ n xs, x = .ref n ∧ itemsM h1 (.ref n) = some xs) ∧ wa sm h1 (fun ms h2 => m x ms h2 Q) E) E
section
variable {X : Cx} {W : WX} {o e : Expr} {es : List Expr} {wo : MTE} {wa : MTA} {name : Str} {apos cpos : Pos} {id : String} {r : V → List V → Hp → VK → Prop} {m : MM}
theorem tyV_list {K : PySem.W.Frag} {f : List Addr} {mh : MH} {H : Hp} {n : Nat} {xs : List M} {v : V} (r : RH K f mh H) (rv : RV K f H (.ref n) v) (h : itemsM mh (.ref n) = some xs) : tyV K "list" v H := by
  obtain ⟨a, us, rfl, s, rr⟩ := ref_rd r rv h
  exact .inl ⟨rfl, us, .inl s⟩
theorem m_bm (slot : Slot "list" name id) (hty : typeOf (.builtin id) = pure (.type "method_descriptor")) (hm : MtR X id r) (l : LmR X.K r m) (ho : EOk X W o wo) (ha : AOk X W (e :: es) wa)
    (hbase : attributeBase o name X.env (eval o X.env) = eval o X.env := by rfl)
    (hfew : ((backTo cpos (starEach (e :: es) X.env)).all (fun x => !x.1) && (backToKw cpos (keywordEach [] X.env)).all (fun x => x.1.isSome)
      && decide ((e :: es).length + ([] : List Keyword).length + (if ([] : List Keyword).isEmpty then 0 else 1) < 30)) = true := by rfl)
    (hline : (apos.endLine == cpos.line) = true := by rfl) (hs : starEach (e :: es) X.env = (false, eval e X.env) :: starEach es X.env := by rfl) (hplain : (backTo cpos (starEach es X.env)).any (·.1) = false := by rfl) :
    EOk X W (.Call (.Attribute o name apos) (e :: es) [] cpos) (wBm m wo wa) :=
  PE.mono (pe_bm PySem.F.plainAttrs_list slot hty hm ho ha hbase hfew hline hs hplain) fun σ H Q ⟨f, sm, mh, Q', E, a, q, k⟩ => a.go q fun f1 mh1 H1 x v p1 x1 a1 r1 ⟨⟨n, xs, e1, e2⟩, q1⟩ => by
    subst e1
    refine ⟨tyV_list a1.h r1 e2, a1.goA q1 fun f2 mh2 H2 ms vs p2 x2 a2 r2 q2 => l f2 mh2 H2 _ v ms vs Q' Q a2.h (r1.mono p2 x2) r2 q2 fun v H' z => k v H' ((z.back p2 x2).back p1 x1)⟩
theorem m_bm0 (slot : Slot "list" name id) (hty : typeOf (.builtin id) = pure (.type "method_descriptor")) (hm : MtR X id r) (l : LmR X.K r m) (ho : EOk X W o wo)
    (hbase : attributeBase o name X.env (eval o X.env) = eval o X.env := by rfl) (hline : (apos.endLine == cpos.line) = true := by rfl) :
    EOk X W (.Call (.Attribute o name apos) [] [] cpos) (wBm m wo wNil) :=
  PE.mono (pe_bm0 PySem.F.plainAttrs_list slot hty hm ho hbase hline) fun σ H Q ⟨f, sm, mh, Q', E, a, q, k⟩ => a.go q fun f1 mh1 H1 x v p1 x1 a1 r1 ⟨⟨n, xs, e1, e2⟩, q1⟩ => by
    subst e1
    exact ⟨tyV_list a1.h r1 e2, l f1 mh1 H1 _ v [] [] Q' Q a1.h r1 rfl q1 fun v H' z => k v H' (z.back p1 x1)⟩
end
section
variable {K : PySem.W.Frag} {f : List Addr} {mh : MH} {H : Hp} {Q' : KM} {Q : VK}
/-- a list is written, and something is told -/
theorem QL.wr {n : Nat} {a : Addr} {xs ys : List M} {vs us : List V} {m : M} {v : V} (r : RH K f mh H) (ha : f[n]? = some a) (e : H a = some (.lst vs)) (rv : RVs K f H ys us) (rm : RV K f H m v) (q : Q' m (mh.set n (.lst ys))) : QL K f H Q' v (upd H a (.lst us)) := by
  have x : Ext H (upd H a (.lst us)) := Ext.put e fun z => z
  exact ⟨f, _, m, List.prefix_refl _, x, r.put (o := .lst ys) ha e (fun z => z) ⟨us, upd_same, rv.mono (List.prefix_refl _) x⟩, rm.mono (List.prefix_refl _) x, q⟩
end
def kAppend : MM := fun x ms h Q => ∃ n xs y, x = .ref n ∧ ms = [y] ∧ h[n]? = some (.lst xs) ∧ xs.length < SZ ∧ Q .non (h.set n (.lst (xs ++ [y])))
theorem l_append {X : Cx} : LmR X.K rAppend kAppend := by
  intro f mh H x xv ms vs Q' Q r rx rvs q k
  obtain ⟨n, xs, y, rfl, rfl, hn, sz, q⟩ := q
  obtain ⟨v, rfl, ry⟩ := rvs.one
  obtain ⟨a, us, rfl, ha, e, rr⟩ := r.lst hn rx
  exact ⟨a, us, v, rfl, rfl, e, by rw [SZ_eq, ← rr.length]; exact sz, k _ _ (QL.wr (xs := xs) (m := .non) r ha e (rr.append (show RVs X.K f H [y] [v] from ⟨v, [], rfl, ry, rfl⟩)) rfl q)⟩
def kExtend : MM := fun x ms h Q => ∃ n b xs zs, x = .ref n ∧ ms = [.ref b] ∧ h[n]? = some (.lst xs) ∧ h[b]? = some (.lst zs) ∧ xs.length + zs.length ≤ SZ ∧ Q .non (h.set n (.lst (xs ++ zs)))
theorem l_extend {X : Cx} : LmR X.K rExtend kExtend := by
  intro f mh H x xv ms vs Q' Q r rx rvs q k
  obtain ⟨n, b, xs, zs, rfl, rfl, hn, hb, sz, q⟩ := q
  obtain ⟨v, rfl, ry⟩ := rvs.one
  obtain ⟨a, us, rfl, ha, e, rr⟩ := r.lst hn rx
  obtain ⟨c, ws, rfl, hc, e2, rr2⟩ := r.lst hb ry
  exact ⟨a, c, us, ws, rfl, rfl, e, e2, by rw [SZ_eq, ← rr.length, ← rr2.length]; exact sz, k _ _ (QL.wr (xs := xs) (m := .non) r ha e (rr.append rr2) rfl q)⟩
theorem RVs.dropLast {K : PySem.W.Frag} {f : List Addr} {H : Hp} {ms : List M} {vs : List V} (h : RVs K f H ms vs) : RVs K f H ms.dropLast vs.dropLast := by
  rw [List.dropLast_eq_take, List.dropLast_eq_take, h.length]; exact h.take _
theorem RVs.eraseIdx {K : PySem.W.Frag} {f : List Addr} {H : Hp} {ms : List M} {vs : List V} (h : RVs K f H ms vs) (j : Nat) : RVs K f H (ms.eraseIdx j) (vs.eraseIdx j) := by
  rw [List.eraseIdx_eq_take_drop_succ, List.eraseIdx_eq_take_drop_succ]; exact (h.take _).append (h.drop _)
def kPop : MM := fun x ms h Q => ∃ n xs y, x = .ref n ∧ ms = [] ∧ h[n]? = some (.lst xs) ∧ xs.getLast? = some y ∧ Q y (h.set n (.lst xs.dropLast))
theorem l_pop {X : Cx} : LmR X.K rPop kPop := by
  intro f mh H x xv ms vs Q' Q r rx rvs q k
  obtain ⟨n, xs, y, rfl, rfl, hn, hy, q⟩ := q
  have e0 : vs = [] := rvs
  subst e0
  obtain ⟨a, us, rfl, ha, e, rr⟩ := r.lst hn rx
  rw [List.getLast?_eq_getElem?] at hy
  obtain ⟨v, hv, rv⟩ := rr.get hy
  exact ⟨a, us, v, rfl, rfl, e, by rw [← rr.length]; exact hv, k _ _ (QL.wr (xs := xs) r ha e rr.dropLast rv q)⟩
def kPopAt : MM := fun x ms h Q => ∃ n xs i j y, x = .ref n ∧ ms = [.int i] ∧ h[n]? = some (.lst xs) ∧ -(2 ^ 63) ≤ i ∧ i < 2 ^ 63 ∧ ixN xs.length i = some j ∧ xs[j]? = some y ∧ Q y (h.set n (.lst (xs.eraseIdx j)))
theorem l_popAt {X : Cx} : LmR X.K rPopAt kPopAt := by
  intro f mh H x xv ms vs Q' Q r rx rvs q k
  obtain ⟨n, xs, i, j, y, rfl, rfl, hn, b1, b2, hj, hy, q⟩ := q
  obtain ⟨v, rfl, rv⟩ := rvs.one
  have e0 : v = .int i := rv
  subst e0
  obtain ⟨a, us, rfl, ha, e, rr⟩ := r.lst hn rx
  obtain ⟨v, hv, rv⟩ := rr.get hy
  exact ⟨a, us, i, j, v, rfl, rfl, e, b1, b2, by rw [← rr.length]; exact (ixN_seq hj).1, hv, k _ _ (QL.wr (xs := xs) r ha e (rr.eraseIdx j) rv q)⟩
def kReverse : MM := fun x ms h Q => ∃ n xs, x = .ref n ∧ ms = [] ∧ h[n]? = some (.lst xs) ∧ Q .non (h.set n (.lst xs.reverse))
theorem l_reverse {X : Cx} : LmR X.K rReverse kReverse := by
  intro f mh H x xv ms vs Q' Q r rx rvs q k
  obtain ⟨n, xs, rfl, rfl, hn, q⟩ := q
  have e0 : vs = [] := rvs
  subst e0
  obtain ⟨a, us, rfl, ha, e, rr⟩ := r.lst hn rx
  exact ⟨a, us, rfl, rfl, e, k _ _ (QL.wr (xs := xs) (m := .non) r ha e rr.reverse rfl q)⟩

/-! ### flat values: in, index, count -/
def flatM : M → Bool
  | .non => true
  | .bl _ => true
  | .int _ => true
  | .str _ => true
  | _ => false
def eqM : M → M → Bool
  | .non, .non => true
  | .bl a, .bl b => a == b
  | .bl a, .int b => (if a then 1 else 0) == b
  | .int a, .bl b => a == (if b then 1 else 0)
  | .int a, .int b => a == b
  | .str a, .str b => a == b
  | _, _ => false
def vOf : M → V
  | .non => .non
  | .bl b => .bl b
  | .int i => .int i
  | .str s => .str s
  | _ => .non
theorem flat_rv {K : PySem.W.Frag} {f : List Addr} {H : Hp} {m : M} {v : V} (h : flatM m = true) (r : RV K f H m v) : v = vOf m ∧ flatV v = true := by
  cases m with
  | non => have e : v = .non := r; subst e; exact ⟨rfl, rfl⟩
  | bl b => have e : v = .bl b := r; subst e; exact ⟨rfl, rfl⟩
  | int i => have e : v = .int i := r; subst e; exact ⟨rfl, rfl⟩
  | str s => have e : v = .str s := r; subst e; exact ⟨rfl, rfl⟩
  | _ => cases h
theorem eq_vOf {a b : M} (ha : flatM a = true) (hb : flatM b = true) : eqV (vOf a) (vOf b) = eqM a b := by
  cases a <;> cases b <;> first | rfl | exact Bool.noConfusion ha | exact Bool.noConfusion hb
theorem flat_rvs {K : PySem.W.Frag} {f : List Addr} {H : Hp} : ∀ {ms : List M} {vs : List V}, ms.all flatM = true → RVs K f H ms vs → vs = ms.map vOf ∧ vs.all flatV = true
  | [], _, _, r => by cases r; exact ⟨rfl, rfl⟩
  | m :: ms, _, h, ⟨v, r, e, h1, h2⟩ => by
    subst e
    rw [List.all_cons, Bool.and_eq_true] at h
    obtain ⟨a1, a2⟩ := flat_rv h.1 h1
    obtain ⟨b1, b2⟩ := flat_rvs h.2 h2
    subst a1 b1
    exact ⟨rfl, by rw [List.all_cons, a2, b2]; rfl⟩
theorem any_vOf {x : M} (hx : flatM x = true) : ∀ {ms : List M}, ms.all flatM = true → (ms.map vOf).any (fun y => eqV y (vOf x)) = ms.any (fun y => eqM y x)
  | [], _ => rfl
  | m :: ms, h => by
    rw [List.all_cons, Bool.and_eq_true] at h
    rw [List.map_cons, List.any_cons, List.any_cons, eq_vOf h.1 hx, any_vOf hx h.2]
theorem cnt_vOf {x : M} (hx : flatM x = true) : ∀ {ms : List M}, ms.all flatM = true → (ms.map vOf).countP (fun y => eqV y (vOf x)) = ms.countP (fun y => eqM y x)
  | [], _ => rfl
  | m :: ms, h => by
    rw [List.all_cons, Bool.and_eq_true] at h
    rw [List.map_cons, List.countP_cons, List.countP_cons, eq_vOf h.1 hx, cnt_vOf hx h.2]
def mIn (neg : Bool) : MR2 := fun x y h Q => ∃ xs, itemsM h y = some xs ∧ flatM x = true ∧ xs.all flatM = true ∧ Q (.bl (if neg then !xs.any (fun z => eqM z x) else xs.any (fun z => eqM z x))) h
theorem l_in {X : Cx} {neg : Bool} : L2R X.K (rIn X.K neg) (mIn neg) := by
  intro f mh H x y xv yv Q' Q r rx ry ⟨xs, h1, h2, h3, q⟩ k
  obtain ⟨a, vs, rfl, s, rr⟩ := items_rd r ry h1
  obtain ⟨e1, f1⟩ := flat_rv h2 rx
  obtain ⟨e2, f2⟩ := flat_rvs h3 rr
  refine ⟨a, vs, rfl, s.imp (fun s => .inl s) id, f1, f2, ?_⟩
  subst e1 e2
  refine k _ _ (QL.same r (m := .bl _) ?_ q)
  show V.bl _ = V.bl _
  unfold inV
  rw [any_vOf h2 h3]
def kIndex : MM := fun x ms h Q => ∃ n xs y j z, x = .ref n ∧ ms = [y] ∧ itemsM h (.ref n) = some xs ∧ flatM y = true ∧ xs.all flatM = true ∧ xs[j]? = some z ∧ eqM z y = true ∧ (∀ m z', m < j → xs[m]? = some z' → eqM z' y = false) ∧ Q (.int (j : Nat)) h
theorem all_at {xs : List M} (h : xs.all flatM = true) {j : Nat} {z : M} (e : xs[j]? = some z) : flatM z = true := List.all_eq_true.mp h z (List.mem_of_getElem? e)
theorem l_index {X : Cx} : LmR X.K (rIndex X.K) kIndex := by
  intro f mh H x xv ms vs Q' Q r rx rvs q k
  obtain ⟨n, xs, y, j, z, rfl, rfl, hn, fy, fx, hz, he, hb, q⟩ := q
  obtain ⟨v, rfl, rv⟩ := rvs.one
  obtain ⟨a, us, rfl, s, rr⟩ := ref_rd r rx hn
  obtain ⟨e1, f1⟩ := flat_rv fy rv
  obtain ⟨e2, f2⟩ := flat_rvs fx rr
  subst e1 e2
  refine ⟨a, _, _, j, vOf z, rfl, rfl, .inl s, f1, f2, by rw [List.getElem?_map, hz]; rfl, by rw [eq_vOf (all_at fx hz) fy]; exact he, fun m z' hm hz' => ?_, k _ _ (QL.same r (m := .int _) rfl q)⟩
  rw [List.getElem?_map] at hz'
  obtain ⟨z0, h0, rfl⟩ := Option.map_eq_some_iff.mp hz'
  rw [eq_vOf (all_at fx h0) fy]
  exact hb m z0 hm h0
def rCount (K : PySem.W.Frag) : V → List V → Hp → VK → Prop := fun x xs H Q => ∃ p ys y, x = .ref p ∧ xs = [y] ∧ SqL K H p ys ∧ flatV y = true ∧ ys.all flatV = true ∧ Q (.int (ys.countP (fun z => eqV z y) : Nat)) H
theorem cnt_eqU {x : V} : ∀ {xs : List V} {us : List Value}, Vals xs us → xs.all flatV = true → us.countP (eqU x) = xs.countP fun y => eqV y x
  | _, _, .nil, _ => rfl
  | _, _, .cons r t, h => by
    rw [List.all_cons, Bool.and_eq_true] at h
    rw [List.countP_cons, List.countP_cons, eqU_of r h.1, cnt_eqU t h.2]
theorem mt_countF {X : Cx} : MtR X "list.count" (rCount X.K) := by
  intro pins s σ H x xs v us Q I rx rxs h
  obtain ⟨p, ys, y, rfl, rfl, hs, fy, fys, q⟩ := h
  cases rx
  obtain ⟨u, rfl, ru⟩ := rxs.one
  obtain ⟨its, rv, ⟨⟨cls, dd, data, sl⟩, n, ho, hc, hdn, hd⟩, hlen⟩ := I.list hs
  simp only at hc hd
  subst hc hd
  refine call_meets PySem.F.slot_list_count ⟨_, ho, rfl⟩ PySem.F.entry_list_count (PySem.F.args_list_count_2 _ _)
    (SeqAt.list_countAt p its.toArray n dd sl u (eqU y)) ⟨ho, fun u' hu' => mem_eqAt ru fy rv fys u' (by simpa using hu'), ?_⟩
  refine ⟨.int (ys.countP (fun z => eqV z y) : Nat), H, I.tok _, ⟨s.toks, ?_⟩, q⟩
  rw [List.toList_toArray, cnt_eqU rv fys]
def kCount : MM := fun x ms h Q => ∃ n xs y, x = .ref n ∧ ms = [y] ∧ itemsM h (.ref n) = some xs ∧ flatM y = true ∧ xs.all flatM = true ∧ Q (.int (xs.countP (fun z => eqM z y) : Nat)) h
theorem l_count {X : Cx} : LmR X.K (rCount X.K) kCount := by
  intro f mh H x xv ms vs Q' Q r rx rvs q k
  obtain ⟨n, xs, y, rfl, rfl, hn, fy, fx, q⟩ := q
  obtain ⟨v, rfl, rv⟩ := rvs.one
  obtain ⟨a, us, rfl, s, rr⟩ := ref_rd r rx hn
  obtain ⟨e1, f1⟩ := flat_rv fy rv
  obtain ⟨e2, f2⟩ := flat_rvs fx rr
  subst e1 e2
  refine ⟨a, _, _, rfl, rfl, .inl s, f1, f2, k _ _ (QL.same r (m := .int _) ?_ q)⟩
  show V.int _ = V.int _
  rw [cnt_vOf fy fx]
end Mn
end
section
set_option maxHeartbeats 2000000
namespace Mn
open PySem PySem.Spec PyProof.Rows L2
open LamX (CodeO TabS Tabs ExtN TabB LamS lamCx lamEnv)

/-! ### x(lambda: body), where the def x calls what it got -/
section
variable {X : Cx} {pins : List (Addr × Obj)} {σ : L2.St} {H : Hp} {s : Shared}
/-- the call within the def: exceptions are wished at the slots of that very state -/
theorem pe_actM {CXg : CXT} {Eg : XK} {Ng : List Str} {qg : Str} {sg : Scope} {g f c' : Addr} {cdg pm ctv : Value} {params : Arguments} {body : Expr} {scope : Scope} {k i : Nat} {a : Str} {pn : List (Addr × Obj)} {xe : Value → Shared → Prop} {W : WX} {t : XK → TE} {p1 p2 : Pos}
    (I : Inv X pins σ H s) (L : LamS X.env.scope scope) (hf : s.heap.get? f = some (PySem.W.kla_obj "<lambda>" (X.env.qual ++ "<lambda>") params body scope (cloFrom X.env.cells scope.names []) pm c' ctv)) (hfn : H f = none) (hfr : f ∉ frs X.stack)
    (hbind : bindArgs (PySem.W.kla_fn "<lambda>" (X.env.qual ++ "<lambda>") params body scope (cloFrom X.env.cells scope.names []) pm (.ref c') ctv) ⟨[], []⟩ = pure [])
    (tk : Takes ((cxOf CXg X.prog X.w X.K X.mg X.base Ng qg sg g cdg X.A X.stack s H Eg).tr pn xe) W) (hr : RoomG (k + 1) (X.A.deeper (envOfC qg sg s.heap.objs.size g cdg)))
    (hbody : ∀ (A : Around) (outer : List Env) (s : Shared) (H : Hp) (E : XK), RoomG k (A.deeper (lamEnv X scope s.heap.objs.size f c')) → PE (lamCx X A outer s H E scope f c') body (t E))
    (hN : Ng[i]? = some a) (hv : Vis sg a) (hd : (a == ("__debug__" : Str)) = false) (hcd : (a == ("__classdict__" : Str)) = false) :
    PE ((cxOf CXg X.prog X.w X.K X.mg X.base Ng qg sg g cdg X.A X.stack s H Eg).tr pn xe) (.Call (.Name a p1) [] [] p2)
      (fun σZ HZ Q => σZ[i]? = some (some (.ref f)) ∧ HZ c' = some (CodeO c' (X.env.qual ++ "<lambda>")) ∧ t (fun cls d H' => W cls d σZ H') σ HZ Q) := by
  refine ⟨fun pinsZ sZ σZ HZ Q IZ ⟨hs, hc, ht⟩ => ?_⟩
  have var := (pe_var (pos := p1) (i := i) hN hv hd hcd).run pinsZ sZ σZ HZ (fun v H1 => v = .ref f ∧ H1 = HZ) IZ ⟨.ref f, hs, rfl, rfl⟩
  refine wpAny_Call_Name_kw (thn var fun u s1 ⟨v, H1, I1, r1, ev, eH⟩ => ?_)
  subst ev
  rw [eH] at I1
  cases (show u = Value.ref f from r1)
  have atf := I1.base.keep f _ hf hfn hfr (fun z => nomatch (show f ∈ ([] : List Addr) from z))
  obtain ⟨⟨oc, vs, tq, hoc, hdc, hvc⟩, _, _⟩ := I1.hok c' _ hc
  refine PySem.W.callWith_F0 ⟨_, _, _, _, atf⟩ (wpAny_call ?_)
  have un : Un (frs X.stack) [] H HZ s.heap s1.heap := I1.base
  refine codeAny_mono (PySem.W.kla_callFunE hr.r.depth atf rfl L.co L.gen rfl ⟨c', oc, vs, tq, rfl, hoc, hdc, hvc⟩ ?_) fun r s' (hq : CR (L2.CX X.prog X.w) (envOfC qg sg s.heap.objs.size g cdg :: X.stack) X.prog X.w HZ s1 Q (fun cls d H' => W cls d σZ H') r s') => ?_
  · refine wpAny_of_eq (a := []) hbind ?_
    refine (wpAny_newFunctionEnv (fun y hy => (L.own y hy).2) (fun y hy => absurd hy (by simp)) (fun h₁ hns hsb => ⟨I1.nolimit.fresh _ hsb, ?_⟩) L.kind)
    have kp : ∀ b o, s1.heap.get? b = some o → h₁.get? b = some o := fun b o e => hsb.extBut b o (Nat.ne_of_lt (Heap.lt_size e)) (Heap.get?_push_of_some _ e)
    have J := LamX.lam_start2 (A := X.A.deeper (envOfC qg sg s.heap.objs.size g cdg)) (outer := envOfC qg sg s.heap.objs.size g cdg :: X.stack) (E := fun cls d H' => W cls d σZ H') (f := f) (c' := c') (tk := s1.toks + ([] : List (Str × Value)).length) I L I1.env0 hr.r.hd un hns kp
    show codeAny _ _ (.expr body (lamEnv X scope s1.heap.objs.size f c')) _ _
    refine PySem.W.kla_codeExpr (wpAny_mono ((hbody _ _ s1 HZ (fun cls d H' => W cls d σZ H') (hr.deeper _)).run [] _ _ HZ Q J ht) (fun v s' hq => ?_) fun e s' hq => hq)
    obtain ⟨w', H', J', rv, q⟩ := hq
    exact ⟨w', H', J'.os, J'.bare, J'.base, J'.hok, rv, q⟩
  · cases r with
    | error e => exact tk e s' (XE.of_call I1 (fun cls d H' q => q) hq)
    | ok fl =>
      cases fl with
      | ret u => exact I1.after hq
      | next => exact False.elim hq
      | brk => exact False.elim hq
      | cont => exact False.elim hq
end
/-- the tables that a small heap tells -/
def tabsOf (mh : MH) : List (Addr × Str) := mh.filterMap fun o => match o with
  | .tab P q => some (P, q)
  | _ => none
theorem mem_tabs {mh : MH} {p : Addr × Str} : p ∈ tabsOf mh ↔ ∃ i : Nat, mh[i]? = some (O.tab p.1 p.2) := by
  unfold tabsOf
  rw [List.mem_filterMap]
  constructor
  · rintro ⟨o, ho, e⟩
    obtain ⟨i, hi, rfl⟩ := List.getElem_of_mem ho
    refine ⟨i, ?_⟩
    rw [List.getElem?_eq_getElem hi]
    split at e
    · rename_i P q h
      cases e
      rw [h]
    · cases e
  · rintro ⟨i, hi⟩
    exact ⟨_, List.mem_of_getElem? hi, rfl⟩
theorem RH.tabs {K : PySem.W.Frag} {f : List Addr} {mh : MH} {H : Hp} (r : RH K f mh H) : Tabs (tabsOf mh) H := by
  intro p hp
  obtain ⟨i, hi⟩ := mem_tabs.mp hp
  obtain ⟨a, _, rfl, t⟩ := r.at hi
  exact t
theorem ext_of_extN {H H1 : Hp} (e : ExtN H H1) : Ext H H1 := fun b o h s => e b o h (by rintro ps rfl; exact s.elim)
theorem RH.lamMade {K : PySem.W.Frag} {f : List Addr} {mh : MH} {H H1 : Hp} (r : RH K f mh H) (e : ExtN H H1) (t : Tabs (tabsOf mh) H1) : RH K f mh H1 where
  len := r.len
  nd := r.nd
  ob := fun n o a h g => by
    have q := r.ob n o a h g
    have x := ext_of_extN e
    cases o with
    | lst xs => obtain ⟨vs, e1, rv⟩ := q; exact ⟨vs, e _ _ e1 (by rintro ps z; cases z), rv.mono (List.prefix_refl _) x⟩
    | rol xs => obtain ⟨o, vs, e1, rv⟩ := q; exact ⟨o, vs, e _ _ e1 (by rintro ps z; cases z), rv.mono (List.prefix_refl _) x⟩
    | dct _ => obtain ⟨ks, e1, rv⟩ := q; exact ⟨ks, e _ _ e1 (by rintro ps z; cases z), rv.mono (List.prefix_refl _) x⟩
    | ins C ks ms => obtain ⟨dx, vs, e1, l, rv⟩ := q; exact ⟨dx, vs, e _ _ e1 (by rintro ps z; cases z), l, rv.mono (List.prefix_refl _) x⟩
    | tab P q' =>
      obtain ⟨rfl, _⟩ := q
      exact ⟨rfl, t (a, q') (mem_tabs.mpr ⟨n, h⟩)⟩

/-! ### the def that gets the lambda -/
abbrev toldCx (X : Cx) (Ng : List Str) (x : Str) (sg : Scope) (g : Addr) (cdg : Value) (s : Shared) (H : Hp) : Cx := cxOf C8.CX0 X.prog X.w X.K X.mg X.base Ng x sg g cdg X.A X.stack s H C8.E0
/-- what the def makes of the lambda's reading -/
abbrev TSp := (MH → KM → KM → Prop) → MH → KM → Prop
def endD (Q : KM) : MD := { nx := fun _ h => Q .non h, rt := Q, bk := fun _ _ => False, ct := fun _ _ => False, xc := fun _ _ _ => False }
def ToldM (X : Cx) (Ng : List Str) (x : Str) (sg : Scope) (g : Addr) (cdg : Value) (bg : List Stmt) (a : Str) (k : Nat) (sp : TSp) : Prop :=
  ∀ (f c' : Addr) (q : Str) (σ : L2.St) (bs : List Bool) (ms : List M) (s : Shared) (H : Hp) (tl : MH → KM → KM → Prop), RoomG k (toldCx X Ng x sg g cdg s H).A →
    (∀ (W : WX) (pn : List (Addr × Obj)) (xe : Value → Shared → Prop) (p1 p2 : Pos), Takes ((toldCx X Ng x sg g cdg s H).tr pn xe) W → EOk ((toldCx X Ng x sg g cdg s H).tr pn xe) W (.Call (.Name a p1) [] [] p2) (fun sm h Q E => sm[0]? = some (some (.lam f c' q σ bs ms)) ∧ tl h Q E)) →
    ∃ wb, SsOk (toldCx X Ng x sg g cdg s H).nox W0 bg wb ∧ ∀ h Q, sp tl h Q → wb (endD Q) (startM Ng [.lam f c' q σ bs ms]) h
def wLam (P : Addr) (q : Str) (sp : TSp) (w : MTE) : MTE := fun sm h Q E => (∃ i : Nat, h[i]? = some (.tab P q)) ∧ sp (fun h Q E => w sm h Q E) h Q
section
variable {X : Cx} {W : WX} {k : Nat}
theorem m_lamcall {sp : TSp} {x a : Str} {g c P : Addr} {pg : Arguments} {bg : List Stmt} {sg : Scope} {dV kV doc pm cdv ct oc : Value} {an od : Option Addr} {osl : Array (Option Value)} {Ng : List Str}
    {params : Arguments} {body : Expr} {scope : Scope} {w : MTE} {p lpos pos : Pos} (cm : CM X W (k + 2)) (hg : Gl X x) (hm : X.mg x = some (.ref g)) (hk : PySem.W.keepIn X.K (.ref g) = true)
    (lk : X.K.lookup g = some ⟨oc, od, .func (PySem.W.fnOf x x pg bg sg dV kV doc pm an cdv ct), osl⟩) (hcg : PySem.W.codeIn X.K cdv x = true) (hb : L2.Binds X.K (PySem.W.fnOf x x pg bg sg dV kV doc pm an cdv ct) [a] []) (Sg : FnScope Ng [a] sg) (hNg : Ng[0]? = some a) (hva : Vis sg a)
    (hG : ToldM X Ng x sg g cdv bg a (k + 1) sp)
    (TB : TabB X.base X.mg c P) (hcode : X.env.code = .ref c) (L : LamS X.env.scope scope) (hdef : defaultsOf params X.env = ([], []))
    (hbind : ∀ (q : Str) (cl : List (Str × Addr)) (pm cv ctv : Value), bindArgs (PySem.W.kla_fn "<lambda>" q params body scope cl pm cv ctv) ⟨[], []⟩ = pure [])
    (hbody : ∀ (A : Around) (outer : List Env) (s : Shared) (H : Hp) (E : XK) (f c' : Addr), RoomG k (A.deeper (lamEnv X scope s.heap.objs.size f c')) → EOk (lamCx X A outer s H E scope f c') (fun cls d _ H => E cls d H) body w)
    (hdb : (x == ("__debug__" : Str)) = false := by decide) (hd : (a == ("__debug__" : Str)) = false := by decide) (hcd : (a == ("__classdict__" : Str)) = false := by decide) :
    EOk X W (.Call (.Name x p) [.Lambda params body scope lpos] [] pos) (wLam P (X.env.qual ++ "<lambda>") sp w) := by
  refine ⟨fun pins s σ H Q I h => ?_⟩
  obtain ⟨f0, sm, mh, Q', E, a0, ⟨⟨i, hi⟩, q⟩, kk⟩ := h
  refine wpAny_Call_Name_kw (ld_glob I hg hm ?_ hdb)
  refine PySem.W.callWith_K (h₀ := X.base) I.ok.mod.kin hk ?_ (by rfl) (by rfl)
  show wpAny _ _ (spliced ((false, eval (.Lambda params body scope lpos) X.env) :: backTo pos (starEach [] X.env))) _ _ s
  obtain ⟨aP, hP, hPe, _⟩ := a0.h.at hi
  have hPf : f0[i]? = some P := hPe ▸ hP
  refine Calls.spliced_cons (LamX.lam_make2 (T := tabsOf mh) I TB hcode (mem_tabs.mpr ⟨i, hi⟩) (fun p hp e => ?_) a0.h.tabs hdef (L.has I.ok) fun f c' pm' ctv H1 s' I1 eN T1 hf hfn hfr hco => ?_)
  · obtain ⟨j, hj⟩ := mem_tabs.mp hp
    obtain ⟨aj, hja, hje, _⟩ := a0.h.at hj
    have : f0[j]? = some P := by rw [← e, ← hje]; exact hja
    have e2 := a0.h.inj this hPf
    subst e2
    rw [hi] at hj
    exact (O.tab.inj (Option.some.inj hj)).2.symm
  refine Calls.spliced_nil ⟨I1.kIn, ?_⟩
  have x1 : Ext H H1 := ext_of_extN eN
  have r1 : RH X.K f0 mh H1 := a0.h.lamMade eN T1
  have s1 : RS X.K f0 H1 sm σ := a0.s.mono (List.prefix_refl _) x1
  let bs := sm.map Option.isSome
  let ms := sm.map fun o => o.getD .non
  have lamv : RV X.K f0 H1 (.lam f c' (X.env.qual ++ "<lambda>") σ bs ms) (.ref f) := by
    have mk : ∀ (sm : MS) (σ : L2.St), RS X.K f0 H1 sm σ → ∃ vs, RVs X.K f0 H1 (sm.map fun o => o.getD .non) vs ∧ vs.length = σ.length ∧ ∀ (i : Nat) u, (sm.map Option.isSome)[i]? = some true → vs[i]? = some u → σ[i]? = some (some u) := by
      intro sm
      induction sm with
      | nil => intro σ r; exact ⟨[], rfl, r.len, fun i u e => by simp at e⟩
      | cons o sm ih =>
        intro σ r
        cases σ with
        | nil => have := r.len; simp at this
        | cons so σ =>
          obtain ⟨vs, h1, h2, h3⟩ := ih σ ⟨by have := r.len; simpa using this, fun i m e => by
            obtain ⟨v, h1, h2⟩ := r.at_ (i + 1) m (by simpa using e)
            exact ⟨v, by simpa using h1, h2⟩⟩
          cases o with
          | none =>
            refine ⟨.non :: vs, ⟨.non, vs, rfl, rfl, h1⟩, by simp [h2], fun i u e1 e2 => ?_⟩
            cases i with
            | zero => simp at e1
            | succ i => simpa using h3 i u (by simpa using e1) (by simpa using e2)
          | some m =>
            obtain ⟨v, g1, g2⟩ := r.at_ 0 m (by simp)
            refine ⟨v :: vs, ⟨v, vs, rfl, g2, h1⟩, by simp [h2], fun i u e1 e2 => ?_⟩
            cases i with
            | zero =>
              have : v = u := by simpa using e2
              subst this
              exact g1
            | succ i => simpa using h3 i u (by simpa using e1) (by simpa using e2)
    exact ⟨rfl, hco, mk sm σ s1⟩
  have rc : codeAny (model X.prog X.w) X.A (.call (.ref g) ⟨[.ref f], []⟩) (CR C8.CX0 X.stack X.prog X.w H1 s' Q C8.E0) s' := by
    refine LamX.run_ofS (k := k + 1) (N := Ng) (ps := [a]) (us := [.ref f]) (vs := [.ref f]) lk hcg Sg cm.rm.r I1.env0 (hb s' [.ref f] I1.kIn rfl) (.cons rfl .nil) rfl fun hr' => ?_
    have hrG : RoomG (k + 1) (X.A.deeper (envOfC x sg s'.heap.objs.size g cdv)) := ⟨hr', cm.rm.g⟩
    obtain ⟨wb, hwb, hsp⟩ := hG f c' (X.env.qual ++ "<lambda>") σ bs ms s' H1 (fun h Q E => w sm h Q E) hrG fun W' pn xe p1 p2 tk => by
      refine PE.mono (pe_actM (i := 0) (t := fun E => liftE X.K (fun cls d _ H => E cls d H) w) I1 L hf hfn hfr (hbind _ _ _ _ _) tk hrG (fun A outer s H E hr2 => hbody A outer s H E f c' hr2) hNg hva hd hcd) fun σZ HZ Qz ⟨fz, smz, mhz, Qz', Ez, az, ⟨h0, ht⟩, kz⟩ => ?_
      obtain ⟨v, e1, rfl, hc, vs, rvs, l, gg⟩ := az.s.at_ 0 _ h0
      refine ⟨e1, hc, fz, sm, mhz, Qz', Ez, ⟨az.h, ⟨a0.s.len, fun j m e => ?_⟩, fun cls d H' q => az.e cls d H' q⟩, ht, kz⟩
      obtain ⟨u, hu, ru⟩ := rvs.get (i := j) (m := m) (by show (sm.map _)[j]? = _; rw [List.getElem?_map, e]; rfl)
      exact ⟨u, gg j u (by show (sm.map _)[j]? = _; rw [List.getElem?_map, e]; rfl) hu, ru⟩
    refine ⟨liftS X.K W0 wb, hwb.nox, f0, _, mh, endD Q', ⟨r1, start_rel (ms := [.lam f c' (X.env.qual ++ "<lambda>") σ bs ms]) ⟨_, _, rfl, lamv, rfl⟩, ?_, fun v H' z => kk v H' (z.back (List.prefix_refl _) x1), ?_, ?_, ?_⟩, hsp mh Q' q⟩
    · rintro σ' H' ⟨f', mh', sm', p', x', r', s', q'⟩
      exact kk _ _ ⟨f', mh', .non, p', x1.trans x', r', rfl, q'⟩
    · rintro σ' H' ⟨f', mh', sm', p', x', r', s', q'⟩; exact q'.elim
    · rintro σ' H' ⟨f', mh', sm', p', x', r', s', q'⟩; exact q'.elim
    · rintro cls d σ' H' ⟨_, _, _, _, _, _, _, _, _, _, _, _, _, _, _, _, _, z⟩; exact z.elim
  refine wpAny_call (codeAny_mono rc fun r s2 hq => ?_)
  cases r with
  | error e => exact (show False from hq).elim
  | ok fl =>
    cases fl with
    | ret u => exact I1.after hq
    | next => exact False.elim hq
    | brk => exact False.elim hq
    | cont => exact False.elim hq
end
end Mn
end
section
set_option maxHeartbeats 1000000
namespace Mn
open PySem PySem.Spec PyProof.Rows L2
open Builtin Builtin.ObjectAttr

/-! ### exceptions of own classes whose __init__ calls a base's and stores one field -/
structure Fam (newId initId : String) (tail : List Value) : Prop where
  base : ∃ B, ExcBaseFacts B newId initId tail
  pass : ∀ self, refuseLoop self "__setattr__" tail = pure ()
  obj : tail.contains (.type "object") = true
  han : PySem.W.handedIn (.builtin initId) = true
abbrev vTail : List Value := [.type "ValueError", .type "Exception", .type "BaseException", .type "object"]
abbrev rTail : List Value := [.type "RuntimeError", .type "Exception", .type "BaseException", .type "object"]
theorem famV : Fam "ValueError.__new__" "ValueError.__init__" vTail := ⟨⟨_, PySem.F.excBase_ValueError⟩, PySem.F.store_ValueError.passes, by decide +kernel, by decide +kernel⟩
theorem famR : Fam "RuntimeError.__new__" "RuntimeError.__init__" rTail := ⟨⟨_, PySem.F.excBase_RuntimeError⟩, PySem.F.store_RuntimeError.passes, by decide +kernel, by decide +kernel⟩
/-- what the class must say -/
structure MkC (K : PySem.W.Frag) (C : Addr) (tail : List Value) (newId : String) : Prop where
  ini : PySem.W.excInitIn K C tail newId = true
  ovr : PySem.W.excOver K C tail = true
  hd : PySem.W.hasDictIn K C = true
  sa : PySem.W.findIn K (.ref C) "__setattr__" = some (some (.builtin "object.__setattr__"))
  exC : PySem.W.subIn K (.ref C) (.type "BaseException") = some true
  tyC : PySem.W.typeIn K (.ref C) = some (.type "type")
  kC : PySem.W.keepIn K (.ref C) = true
theorem MkC.cd {K : PySem.W.Frag} {C : Addr} {tail : List Value} {newId : String} (T : MkC K C tail newId) : ∃ cd, PySem.W.clsIn K C = some cd ∧ cd.hasDict = true ∧ PySem.W.excTail tail cd.mro = true := by
  obtain ⟨cd, hc, hd⟩ := PySem.W.any_some T.hd
  obtain ⟨cd', hc', h⟩ := PySem.W.any_some T.ovr
  rw [hc] at hc'
  cases hc'
  refine ⟨cd, hc, hd, ?_⟩
  split at h
  · rename_i C' bm e
    rw [e]
    exact (Bool.and_eq_true_iff.mp h).2
  · cases h
section
variable {prog : Program} {w : World} {A : Around} {E : Value → Shared → Prop} {R : Result → Shared → Prop} {hp : Heap} {g : Array GenState} {d : Drawn} {t : Nat} {os : OsState}
/-- e.name = v, the first field -/
theorem osa_first {K : PySem.W.Frag} {name : Str} {tk : Tok} {v : Value} {x C : Addr} {fv : Array Value} {cd : ClassData} {tail : List Value} {newId initId : String} (Fm : Fam newId initId tail)
    (X : K.In hp) (hx : hp.get? x = some { cls := .ref C, data := .fields fv }) (hcd : PySem.W.clsIn K C = some cd) (hm : PySem.W.excTail tail cd.mro = true) (hh : cd.hasDict = true) (ha : PySem.W.findIn K (.ref C) name = some none)
    (hq : ∀ h' tk' dx, (∀ b o, b ≠ x → hp.get? b = some o → h'.get? b = some o) → hp.objs.size ≤ dx → dx ≠ x → h'.get? x = some { cls := .ref C, dict := some dx, data := .fields fv } →
      h'.Ns1 dx (fun y => if y = name then some v else none) → R (.ok (.ret .none)) ⟨h', g, d, tk', os⟩) :
    codeAny (model prog w) A (.call (.builtin "object.__setattr__") ⟨[.ref x, .str name tk, v], []⟩) R ⟨hp, g, d, t, os⟩ := by
  have I : PySem.W.InstAt hp x { cls := .ref C, data := .fields fv } C none := ⟨hx, rfl, rfl, trivial⟩
  have SF := PySem.F.store_object
  have hob : cd.mro.contains (.type "object") = true := (PySem.W.excTail_contains "object" _ hm).trans Fm.obj
  have ne : cd.mro.isEmpty = false := by
    cases e : cd.mro with
    | nil => rw [e] at hob; cases hob
    | cons _ _ => rfl
  have hxs : x ≠ hp.objs.size := Nat.ne_of_lt (Heap.lt_size hx)
  have sub : PySem.W.Looks (model prog w) hp (isInstance (.ref x) (.type "object")) true := I.type.andThen (PySem.W.looks_mroIn X (by unfold PySem.W.mroIn; rw [hcd, Option.bind_some, if_neg (by rw [ne]; decide), hob]))
  have hmr : PySem.W.Looks (model prog w) hp (mroOf (.ref C)) cd.mro := (PySem.W.looks_clsIn X hcd).andThen .now
  have L3 : PySem.W.Looks (model prog w) hp (storeTaker? none) none := .now
  have hcls : PySem.W.Looks (model prog w) hp (classData C) cd := PySem.W.looks_clsIn X hcd
  refine codeAny_call_builtin SF.slot.plain SF.entry (@PySem.W.check_slot (model prog w) _ _ ⟨hp, g, d, t, os⟩ "object.__setattr__" "object" "__setattr__" (.ref x) [.str name tk, v] [] _ SF.kind SF.split sub (SF.args (.ref x) (.str name tk) v) ?_)
  rw [PySem.W.osa_eq, refuse_eq]
  refine wpAny_bind (wpAny_bind (I.type.at (wpAny_bind (hmr.at ?_))))
  rw [PySem.W.excTail_pass _ (Fm.pass _) _ hm]
  refine wpAny_pure (wpAny_bind (I.type.at (wpAny_bind ((PySem.W.looks_findIn X ha).at (wpAny_bind (L3.at ?_))))))
  show wpAny _ _ (storeInOwnDict (.ref x) (.ref C) (.str name tk) name v false) _ _ _
  obtain ⟨nm, bs, mro, ns, qn, hd, sn, sb, ab, col, del⟩ := cd
  dsimp only at hh
  subst hh
  unfold storeInOwnDict ownDictForStores
  repeat (first | with_reducible refine HandSPX.store_in_new ?_ ?_ | with_reducible refine wpAny_loadPart_at hx ?_ | with_reducible refine hcls.at ?_ | wp_step)
  · exact ⟨_, #[], _, (Heap.get?_update_ne _ _ _ _ hxs.symm).trans (Heap.get?_push_at rfl rfl), rfl, fun e he => absurd he (by simp), fun _ => rfl⟩
  · intro h' tk' hn' hs
    have hx₁ : (hp.push { cls := .type "dict", data := .dict #[] }).get? x = some { cls := .ref C, data := .fields fv } := Heap.get?_push_of_some _ hx
    refine hq h' tk' hp.objs.size (fun b o hb ho => ?_) (Nat.le_refl _) hxs.symm ?_ hn'
    · exact (hs.2 b (Nat.ne_of_lt (Heap.lt_size ho))).trans ((Heap.get?_update_ne _ _ _ _ hb).trans (Heap.get?_push_of_some _ ho))
    · exact (hs.2 x hxs).trans (Heap.get?_update_self _ hx₁ rfl)
end
section
variable {X : Cx} {pins : List (Addr × Obj)} {σ : L2.St} {H : Hp} {s : Shared} {a C : Addr} {f : Str} {y : V} {u : Value} {A : Around} {E : Value → Shared → Prop} {tail : List Value} {newId initId : String}
theorem ost_first {Q : Unit → Shared → Prop} (Fm : Fam newId initId tail) (T : MkC X.K C tail newId) (I : Inv X pins σ H s) (e : H a = some (exo a C none)) (hno : PySem.W.findIn X.K (.ref C) f = some none) (ry : RelV y u)
    (h : ∀ dx s', H dx = none → dx ≠ a → Inv X pins σ (upd (upd H dx (exd dx [(f, y)])) a (exo a C (some dx))) s' → Q () s') : wpAny (model X.prog X.w) A (setAttr (.ref a) f u) Q E s := by
  obtain ⟨cd, hcl, hhd, htl⟩ := T.cd
  obtain ⟨t1, ho⟩ := exo_at I.hok e
  obtain ⟨hp, g, d, t, os⟩ := s
  refine PySem.W.set_plain I.kIn (ox := { cls := .ref C, dict := none, data := .fields #[.ref t1, .none, .none, .none, .bool false, .none] }) (od := none) ⟨ho, rfl, rfl, trivial⟩ T.sa (osa_first Fm I.kIn ho hcl htl hhd hno fun h' tk' dx k dn dne hx hn => ?_)
  have hnd : H dx = none := I.hok.fresh dn
  have nd : ∀ {b : Addr} {o : Obj}, hp.get? b = some o → b ≠ dx := fun {b o} q => Nat.ne_of_lt (Nat.lt_of_lt_of_le (Heap.lt_size q) dn)
  have na : ∀ {b : Addr}, H b = none → b ≠ a := fun {b} n z => by rw [z, e] at n; cases n
  have other : ∀ {b : Addr} {o : HO}, H b = some o → o ≠ exo a C none → upd (upd H dx (exd dx [(f, y)])) a (exo a C (some dx)) b = some o := fun {b o} q ne => by
    rw [upd_ne (fun z => ne (Option.some.inj ((q.symm.trans (by rw [z]; exact e))))), upd_ne (ne_of_none q hnd)]; exact q
  refine h dx _ hnd dne (I.un (t' := tk') ⟨fun b o q n _ _ => k b o (na n) q, fun b o q n _ _ => ⟨o.slots, k b o (na n) q⟩, fun b o q n _ => by rw [upd_ne (na n), upd_ne (nd q)]; exact n, fun b o q _ => ?_,
    fun b xs q => other q (Ne.symm exo_tup), fun b o v q => other q (Ne.symm exo_frz), fun b ps q => ⟨#[], by rw [other q (Ne.symm exo_tbl)]; simp⟩⟩ fun b o q => ?_)
  · by_cases hb : b = a
    · exact ⟨_, by rw [hb]; exact hx⟩
    · exact ⟨o, k b o hb q⟩
  · by_cases hb : b = a
    · subst hb
      rw [upd_same] at q
      cases q
      exact exo_ok hx
    · rw [upd_ne hb] at q
      by_cases hd : b = dx
      · subst hd
        rw [upd_same] at q
        cases q
        exact exd_ok hn (relO_put (fs := []) ry fun g => True.intro)
      · rw [upd_ne hd] at q
        refine (I.hok b o q).stay (fun c v hc z => k c v ?_ z) (fun c hc => other hc (Ne.symm exo_own)) fun c xs hc => other hc (Ne.symm exo_tup)
        rcases hc with rfl | hc
        · exact hb
        · exact at_ne e hc exo_own
/-- what the base's name must say -/
structure BaseC (K : PySem.W.Frag) (B : Addr) (initId : String) : Prop where
  rd : PySem.W.readsIn K B (.type "type") = true
  ga : PySem.W.specialIn K (.ref B) "__getattribute__" = some (some (.builtin "type.__getattribute__"))
  at_ : PySem.W.findCls K (.ref B) (.type "type") "__init__" = some (.val (.builtin initId))
/-- B.__init__(self, 'text') -/
theorem pe_binit {x m : Str} {B : Addr} {i j : Nat} {p1 p2 p3 p4 pos : Pos} {pl : Sem Bool} {self : Str} (Fm : Fam newId initId tail) (T : MkC X.K C tail newId) (hB : BaseC X.K B initId) (hg : Gl X x) (hm : X.mg x = some (.ref B)) (hN : X.N[i]? = some self) (hv : Vis X.env.scope self)
    (hc : eval (.Call (.Attribute (.Name x p1) "__init__" p2) [.Name self p3, .Constant (.str m) j p4] [] pos) X.env = (do
      let ov ← eval (.Name x p1) X.env
      standAt p2.atName
      let (f, first) ← holding [ov] (getMethod ov "__init__" pl)
      callWith pos f first (backTo pos (starEach [.Name self p3, .Constant (.str m) j p4] X.env)) (backToKw pos (keywordEach [] X.env))) := by rfl)
    (hdb : (x == ("__debug__" : Str)) = false := by decide) (hd : (self == ("__debug__" : Str)) = false := by decide) (hcd : (self == ("__classdict__" : Str)) = false := by decide) :
    PE X (.Call (.Attribute (.Name x p1) "__init__" p2) [.Name self p3, .Constant (.str m) j p4] [] pos) (fun σ H Q => ∃ a, σ[i]? = some (some (.ref a)) ∧ H a = some (exo a C none) ∧ Q .non H) := by
  refine ⟨fun pins s σ H Q I ⟨a, hs, ea, q⟩ => ?_⟩
  refine PySem.W.methodCall_KW (ld_glob I hg hm ?_ hdb) hc
  refine PySem.W.method_cls I.kIn hB.ga (PySem.W.cls_value I.kIn hB.rd hB.at_ Fm.han ?_)
  refine PyProof.Rows.callWith_method1 (thn ((pa_cons (pe_var hN hv hd hcd) (pa_cons pe_str pa_nil)).run pos pins _ σ H (fun vs H1 => vs = [.ref a, .str m] ∧ H1 = H) (I.tok _) ⟨.ref a, hs, rfl, rfl⟩) fun us s1 ⟨vs, H1, I1, r1, e1, e2⟩ => ?_)
  subst e1 e2
  obtain ⟨u1, u2, rfl, r1, r2⟩ := r1.two
  obtain rfl : u1 = Value.ref a := r1
  obtain ⟨B', FB⟩ := Fm.base
  obtain ⟨t1, ho⟩ := exo_at I1.hok ea
  obtain ⟨nm, N', qn, bs, bm, hdct, sn, sub, ab, col, dd, k0, k1, k2, k3, k5, hC, hT⟩ := PySem.W.excInit_of I1.kIn T.ini
  obtain ⟨hp, g, d, t, os⟩ := s1
  refine wpAny_call (HandSPX.init_base FB hT hC ho (by rw [sizeLine_eq]; show 1 ≤ 16777216; decide) fun h' t2 k hx => ?_)
  have J := I1.write (t' := t) (x := a) (e := a) (o := exo a C none) (by rw [ea]; exact True.intro) (.inl rfl) k ⟨_, hx⟩ (exo_ok hx)
  have eu : upd H1 a (exo a C none) = H1 := by
    funext b
    by_cases hb : b = a
    · rw [hb, upd_same, ea]
    · rw [upd_ne hb]
  rw [eu] at J
  exact ⟨.non, H1, J, rfl, q⟩
/-- self.f = e -/
theorem ps_ostF {i j : Nat} {self val : Str} {p p1 p2 pos : Pos} (Fm : Fam newId initId tail) (T : MkC X.K C tail newId) (hno : PySem.W.findIn X.K (.ref C) f = some none) (hN : X.N[i]? = some self) (hv : Vis X.env.scope self) (hN2 : X.N[j]? = some val) (hv2 : Vis X.env.scope val)
    (hs : swapsWith (.Name val p2) (some (.Attribute (.Name self p1) f p)) pos.line X.env = pure false := by rfl) (hd : (self == ("__debug__" : Str)) = false := by decide) (hcd : (self == ("__classdict__" : Str)) = false := by decide) (hd2 : (val == ("__debug__" : Str)) = false := by decide) (hcd2 : (val == ("__classdict__" : Str)) = false := by decide) :
    PS X (.Assign [.Attribute (.Name self p1) f p] (.Name val p2) pos) (fun D σ H => ∃ a y, σ[i]? = some (some (.ref a)) ∧ σ[j]? = some (some y) ∧ H a = some (exo a C none) ∧ ∀ dx, H dx = none → dx ≠ a → D.nx σ (upd (upd H dx (exd dx [(f, y)])) a (exo a C (some dx)))) := by
  refine ⟨fun pins s σ H D I ⟨a, y, h1, h2, ea, q⟩ => ?_⟩
  refine plainObj_wpAny_Assign_Attribute (thn ((pe_var hN2 hv2 hd2 hcd2).run pins s σ H (fun v H1 => v = y ∧ H1 = H) I ⟨y, h2, rfl, rfl⟩) fun v s1 ⟨x, H1, I1, r1, e1, e2⟩ => ?_) hs
  subst e1 e2
  refine thn ((pe_var hN hv hd hcd).run pins s1 σ H1 (fun v H2 => v = .ref a ∧ H2 = H1) I1 ⟨.ref a, h1, rfl, rfl⟩) fun w s2 ⟨x2, H2, I2, r2, e1, e2⟩ => ?_
  subst e1
  rw [e2] at I2
  obtain rfl : w = Value.ref a := r2
  exact ost_first Fm T I2 ea hno r1 fun dx s' n ne J => ⟨σ, _, J, q dx n ne⟩
end
/-! ### the __init__, the making, the raise -/
def spI (C : Addr) (fld : Str) : Sp := fun vs H Q _ => ∃ a y, vs = [.ref a, y] ∧ H a = some (exo a C none) ∧ ∀ dx, H dx = none → dx ≠ a → Q .non (upd (upd H dx (exd dx [(fld, y)])) a (exo a C (some dx)))
section
variable {P : Program} {w : World} {K : PySem.W.Frag} {mg : Str → Option Value} {base : Heap} {C B fI : Addr} {tail : List Value} {newId initId : String}
theorem init_ok {k j : Nat} {pl : Env → Sem Bool} {name qual self val x m fld : Str} {params : Arguments} {body : List Stmt} {scope : Scope} {dvs : List V} {kws : List (Str × V)} {fd : FuncData} {p1 p2 p3 p4 p5 p6 p7 p8 p9 p10 : Pos} (Fm : Fam newId initId tail) (T : MkC K C tail newId) (hB : BaseC K B initId)
    (F : FunD K name qual params body scope dvs kws fI fd) (S : FnScope [self, val] [self, val] scope) (hg : scope.names.lookup x = some .globalImplicit) (hm : mg x = some (.ref B)) (hno : PySem.W.findIn K (.ref C) fld = some none) (hv1 : Vis scope self) (hv2 : Vis scope val)
    (hb : body = [.Expr (.Call (.Attribute (.Name x p1) "__init__" p2) [.Name self p3, .Constant (.str m) j p4] [] p5) p6, .Assign [.Attribute (.Name self p7) fld p8] (.Name val p9) p10])
    (hc : ∀ env : Env, eval (.Call (.Attribute (.Name x p1) "__init__" p2) [.Name self p3, .Constant (.str m) j p4] [] p5) env = (do
      let ov ← eval (.Name x p1) env
      standAt p2.atName
      let (f, first) ← holding [ov] (getMethod ov "__init__" (pl env))
      callWith p5 f first (backTo p5 (starEach [.Name self p3, .Constant (.str m) j p4] env)) (backToKw p5 (keywordEach [] env))) := by intro _; rfl)
    (hs1 : ∀ env : Env, swapsWith (.Call (.Attribute (.Name x p1) "__init__" p2) [.Name self p3, .Constant (.str m) j p4] [] p5) none p6.line env = pure false := by intro _; rfl)
    (hs2 : ∀ env : Env, swapsWith (.Name val p9) (some (.Attribute (.Name self p7) fld p8)) p10.line env = pure false := by intro _; rfl)
    (hdb : (x == ("__debug__" : Str)) = false := by decide) (hd : (self == ("__debug__" : Str)) = false := by decide) (hcd : (self == ("__classdict__" : Str)) = false := by decide) (hd2 : (val == ("__debug__" : Str)) = false := by decide) (hcd2 : (val == ("__classdict__" : Str)) = false := by decide)  :
    FnOk P w K mg base (L2.CX P w) (k + 1) fI fd [self, val] (spI C fld) := by
  subst hb
  refine F.ok S (fun vs H Q E ⟨a, y, e, _⟩ => by rw [e]; rfl) fun cdv A outer s H vs Q E hr h => ?_
  obtain ⟨a, y, rfl, ea, q⟩ := h
  refine ⟨_, PSs.nox (pss_cons (ps_expr (pe_binit (X := (cxOf (L2.CX P w) P w K mg base [self, val] qual scope fI cdv A outer s H E).nox) (i := 0) (B := B) Fm T hB hg hm rfl hv1 (hc _) (hdb := hdb) (hd := hd) (hcd := hcd)) (hs1 _))
    (pss_one (ps_ostF (i := 0) (j := 1) Fm T hno rfl hv1 rfl hv2 (hs2 _) (hd := hd) (hcd := hcd) (hd2 := hd2) (hcd2 := hcd2)))), a, rfl, ea, a, y, rfl, rfl, ea, q⟩
end
section
variable {X : Cx} {C fI : Addr} {tail : List Value} {newId initId : String} {pins : List (Addr × Obj)} {σ : L2.St}
theorem mk_run {k : Nat} {fd : FuncData} {ps : List Str} {fld : Str} {ds : List Value} {dvs vs : List V} {us : List Value} {y : V} {H1 : Hp} {Q : XK} {s1 : Shared} (Fm : Fam newId initId tail) (T : MkC X.K C tail newId) (iC : PySem.W.findIn X.K (.ref C) "__init__" = some (some (.ref fI))) (tI : PySem.W.typeIn X.K (.ref fI) = some (.type "function"))
    (F1 : FnOk X.prog X.w X.K X.mg X.base (L2.CX X.prog X.w) k fI fd ps (spI C fld)) (hr : Room (k + 1) X.A) (hb : L2.Binds X.K fd ps ds) (hd : Vals dvs ds) (I1 : Inv X pins σ H1 s1) (r1 : Vals vs us) (hz : vs.length ≤ 1000) (hy : vs ++ dvs = [y])
    (q1 : ∀ d, H1 d = none → Q (.ref C) (some d) (upd H1 d (.xd [(fld, y)]))) : wpAny (model X.prog X.w) X.A (call (.ref C) us) (MkP X pins σ Q) X.xe s1 := by
  obtain ⟨B, FB⟩ := Fm.base
  obtain ⟨nm, N', qn, bs, bm, hdct, sn, sub, ab, col, dd, k0, k1, k2, k3, k5, hC, hT⟩ := PySem.W.excInit_of I1.kIn T.ini
  obtain ⟨hp, g, dr, tk, os⟩ := s1
  have hsz : hp.objs.size ≤ hp.objs.size + 1 := Nat.le_succ _
  have hn : H1 (hp.objs.size + 1) = none := I1.hok.fresh hsz
  have kk : ∀ b o, hp.get? b = some o → ((hp.push (PySem.W.kdv_tup us)).push (HandSPX.excO C hp.objs.size)).get? b = some o := fun b o e => Heap.get?_push_of_some _ (Heap.get?_push_of_some _ e)
  have hget : ((hp.push (PySem.W.kdv_tup us)).push (HandSPX.excO C hp.objs.size)).get? (hp.objs.size + 1) = some (HandSPX.excO C hp.objs.size) := by heap_get
  have I2 : Inv X pins σ (upd H1 (hp.objs.size + 1) (exo (hp.objs.size + 1) C none)) ⟨(hp.push (PySem.W.kdv_tup us)).push (HandSPX.excO C hp.objs.size), g, dr, tk, os⟩ :=
    I1.laid (t' := tk) (a := hp.objs.size + 1) (o := exo (hp.objs.size + 1) C none) (h' := (hp.push (PySem.W.kdv_tup us)).push (HandSPX.excO C hp.objs.size)) kk hsz (exo_ok hget)
  have r2 : Vals (V.ref (hp.objs.size + 1) :: (vs ++ dvs)) (Value.ref (hp.objs.size + 1) :: (us ++ ds)) := .cons rfl (r1.append hd)
  have hq : spI C fld (V.ref (hp.objs.size + 1) :: (vs ++ dvs)) (upd H1 (hp.objs.size + 1) (exo (hp.objs.size + 1) C none))
      (fun v H2 => v = .non ∧ ∃ d fs, H2 (hp.objs.size + 1) = some (exo (hp.objs.size + 1) C (some d)) ∧ H2 d = some (exd d fs) ∧ H1 d = none ∧ Q (.ref C) (some d) (upd (del H2 (hp.objs.size + 1)) d (.xd fs))) (fun _ _ _ => False) := by
    refine ⟨_, y, by rw [hy], upd_same, fun dx hdx hne => ⟨rfl, dx, [(fld, y)], upd_same, by rw [upd_ne hne, upd_same], by rw [upd_ne hne] at hdx; exact hdx, ?_⟩⟩
    rw [upd_ne hne] at hdx
    have e : upd (del (upd (upd (upd H1 (hp.objs.size + 1) (exo (hp.objs.size + 1) C none)) dx (exd dx [(fld, y)])) (hp.objs.size + 1) (exo (hp.objs.size + 1) C (some dx))) (hp.objs.size + 1)) dx (.xd [(fld, y)]) = upd H1 dx (.xd [(fld, y)]) := by
      funext b
      by_cases hb : b = dx
      · rw [hb, upd_same, upd_same]
      · rw [upd_ne hb, upd_ne hb]
        by_cases ha : b = hp.objs.size + 1
        · rw [ha, del_same, hn]
        · rw [del_ne ha, upd_ne ha, upd_ne hb, upd_ne ha]
    rw [e]
    exact q1 dx hdx
  have hl : (Value.ref (hp.objs.size + 1) :: us ++ ds).length = ps.length := by
    have e := r2.length
    rw [F1.len _ _ _ _ hq] at e
    exact e.symm
  have hus : us.length ≤ sizeLine := by rw [← Paired.length r1, sizeLine_eq]; omega
  refine wpAny_call (HandSPX.call_own FB hT hC (PySem.W.looks_findIn I1.kIn iC) (fun self => PySem.W.bind_fn I1.kIn self tI) hus
    (codeAny_mono (F1.run _ X.stack _ _ ⟨Value.ref (hp.objs.size + 1) :: us, []⟩ (Value.ref (hp.objs.size + 1) :: (us ++ ds)) _ _ (fun _ _ _ => False) (hr.make C us []) (I2.env0.make C us []) (hb _ (Value.ref (hp.objs.size + 1) :: us) I2.kIn hl) r2 hq) fun r s' hq' => ?_))
  cases r with
  | error er =>
    obtain ⟨_, _, _, _, _, _, _, _, _, _, _, _, z⟩ := hq'
    exact z.elim
  | ok fl =>
    cases fl with
    | ret u =>
      obtain ⟨v, H2, os2, bare2, un2, hok2, rv, ev, d, fs, ea, ed, hd1, q2⟩ := hq'
      subst ev
      obtain ⟨h2, g2, d2, t2, os'⟩ := s'
      exact ⟨rv, mk_end (raises_own T.exC T.tyC) I1 hsz kk un2 hok2 os2 bare2 ea ed hd1 q2⟩
    | next => exact False.elim hq'
    | brk => exact False.elim hq'
    | cont => exact False.elim hq'
/-- how an own exception is made: class x, one field, the default's values dM -/
structure ExMk (P : Program) (w : World) (K : PySem.W.Frag) (mg : Str → Option Value) (base : Heap) (k : Nat) (x fld : Str) (dM : List M) : Prop where
  ex : ∃ (newId initId : String) (tail : List Value) (fI : Addr) (fd : FuncData) (ps : List Str) (ds : List Value) (dvs : List V), Fam newId initId tail ∧ MkC K (He.ga K x) tail newId ∧ PySem.W.findIn K (.ref (He.ga K x)) "__init__" = some (some (.ref fI)) ∧ PySem.W.typeIn K (.ref fI) = some (.type "function") ∧
    FnOk P w K mg base (L2.CX P w) k fI fd ps (spI (He.ga K x) fld) ∧ L2.Binds K fd ps ds ∧ Vals dvs ds ∧ ∀ (f : List Addr) (H : Hp), RVs K f H dM dvs
  gl : mg x = some (.ref (He.ga K x))
def wRaise (x fld : Str) (dM : List M) (wa : MTA) : MTS := fun D sm h => wa sm h (fun ms h1 => ∃ m, ms ++ dM = [m] ∧ D.xc (.exc x [fld] [m]) sm h1) (fun e h1 => D.xc e sm h1)
variable {W : WX} {k j : Nat} {x fld : Str} {dM : List M} {p pos pos' : Pos}
theorem s_raise {e : Expr} {es : List Expr} {wa : MTA} (c : CM X W k) (R : ExMk X.prog X.w X.K X.mg X.base j x fld dM) (hj : j + 1 ≤ k) (hg : Gl X x) (ha : AOk X W (e :: es) wa) (hdb : (x == ("__debug__" : Str)) = false := by decide)
    (he : starEach (e :: es) X.env = (false, eval e X.env) :: starEach es X.env := by rfl) (hpl : (backTo pos (starEach es X.env)).any (·.1) = false := by rfl) :
    SOk X W (.Raise (some (.Call (.Name x p) (e :: es) [] pos)) none pos') (wRaise x fld dM wa) := by
  obtain ⟨newId, initId, tail, fI, fd, ps, ds, dvs, Fm, T, iC, tI, F1, hb, hd, rd⟩ := R.ex
  have mk : PMk X (.Call (.Name x p) (e :: es) [] pos) (fun σ H Q => liftA X.K W wa σ H fun vs H1 => vs.length ≤ 1000 ∧ ∃ y, vs ++ dvs = [y] ∧ ∀ d, H1 d = none → Q (.ref (He.ga X.K x)) (some d) (upd H1 d (.xd [(fld, y)]))) := by
    intro pins s σ H Q I h
    refine wpAny_Call_Name_kw (ld_glob I hg R.gl ?_ hdb)
    refine PySem.W.callWith_K (h₀ := X.base) I.ok.mod.kin T.kC (thn (ha.run pos pins s σ H _ I h) fun us s1 ⟨vs, H1, I1, r1, hz, y, hy, q1⟩ => ⟨I1.kIn, ?_⟩) he hpl
    exact mk_run Fm T iC tI F1 (c.rm.r.mono hj) hb hd I1 r1 hz hy q1
  refine PS.mono (ps_raise c.calm c.tk mk) fun D σ H ⟨f, sm, mh, D', a, q⟩ => a.at.goA q fun f1 mh1 H1 ms vs p1 x1 a1 r1 ⟨m, hm, q1⟩ => ?_
  have rr := r1.append (rd f1 H1)
  rw [hm] at rr
  obtain ⟨y, hy, ry⟩ := rr.one
  refine ⟨?_, y, hy, fun d hd => ?_⟩
  · have := congrArg List.length hy
    simp at this
    omega
  · have x2 : Ext H1 (upd H1 d (.xd [(fld, y)])) := Ext.new hd
    exact a1.e _ _ _ ⟨f1, mh1, x, [fld], [m], [y], d, List.prefix_refl _, x2, a1.h.new hd, rfl, rfl, upd_same, rfl, ⟨y, [], rfl, ry.mono (List.prefix_refl _) x2, rfl⟩, q1⟩
theorem s_raise0 (c : CM X W k) (R : ExMk X.prog X.w X.K X.mg X.base j x fld dM) (hj : j + 1 ≤ k) (hg : Gl X x) (hdb : (x == ("__debug__" : Str)) = false := by decide) :
    SOk X W (.Raise (some (.Call (.Name x p) [] [] pos)) none pos') (wRaise x fld dM wNil) := by
  obtain ⟨newId, initId, tail, fI, fd, ps, ds, dvs, Fm, T, iC, tI, F1, hb, hd, rd⟩ := R.ex
  have mk : PMk X (.Call (.Name x p) [] [] pos) (fun σ H1 Q => ∃ y, dvs = [y] ∧ ∀ d, H1 d = none → Q (.ref (He.ga X.K x)) (some d) (upd H1 d (.xd [(fld, y)]))) := by
    intro pins s σ H Q I ⟨y, hy, q1⟩
    refine wpAny_Call_Name_kw (ld_glob I hg R.gl ?_ hdb)
    refine PySem.W.callWith_K0 I.kIn T.kC ?_
    exact mk_run (vs := []) (us := []) Fm T iC tI F1 (c.rm.r.mono hj) hb hd I .nil (Nat.zero_le _) hy q1
  refine PS.mono (ps_raise c.calm c.tk mk) fun D σ H ⟨f, sm, mh, D', a, m, hm, q1⟩ => ?_
  have rr := rd f H
  have hm' : dM = [m] := hm
  rw [hm'] at rr
  obtain ⟨y, hy, ry⟩ := rr.one
  refine ⟨y, hy, fun d hd => ?_⟩
  have x2 : Ext H (upd H d (.xd [(fld, y)])) := Ext.new hd
  exact a.at.e _ _ _ ⟨f, mh, x, [fld], [m], [y], d, List.prefix_refl _, x2, a.h.new hd, rfl, rfl, upd_same, rfl, ⟨y, [], rfl, ry.mono (List.prefix_refl _) x2, rfl⟩, q1⟩
end
end Mn
end
section
set_option maxHeartbeats 1000000
namespace Mn
open PySem PySem.Spec PyProof.Rows L2
open LamX (TabB)

/-! ### the end of a law -/
/-- the small heap at the beginning: the script, the tables -/
def mh0 (ns : List Int) (ts : List (Addr × Str)) : MH := .rol (ns.map M.int) :: ts.map fun p => .tab p.1 p.2
def scrO (vs : List Value) : Obj := { cls := .type "list", data := .seq vs.toArray }
def tabO : Obj := { cls := .none, data := .fields #[] }
/-- the layer's heap at the beginning -/
def hp0 (a : Addr) (vs : List Value) (ns : List Int) (tb : List Addr) : Hp := fun b => if b = a then some (.frz (scrO vs) (.lst (ns.map V.int))) else if b ∈ tb then some (.tbl #[]) else none
def noLst (K : PySem.W.Frag) : Bool := K.all fun p => p.2.cls != .type "list"
section
variable {a : Addr} {vs : List Value} {ns : List Int} {tb : List Addr} {b : Addr}
theorem hp0_scr : hp0 a vs ns tb a = some (.frz (scrO vs) (.lst (ns.map V.int))) := if_pos rfl
theorem hp0_tab (h : b ∈ tb) (n : b ≠ a) : hp0 a vs ns tb b = some (.tbl #[]) := (if_neg n).trans (if_pos h)
theorem hp0_none (h : b ∉ tb) (n : b ≠ a) : hp0 a vs ns tb b = none := (if_neg n).trans (if_neg h)
theorem hp0_cases {u : HO} (e : hp0 a vs ns tb b = some u) : (b = a ∧ u = .frz (scrO vs) (.lst (ns.map V.int))) ∨ (b ∈ tb ∧ b ≠ a ∧ u = .tbl #[]) := by
  by_cases hb : b = a
  · subst hb
    rw [hp0_scr] at e
    exact .inl ⟨rfl, (Option.some.inj e).symm⟩
  · by_cases ht : b ∈ tb
    · rw [hp0_tab ht hb] at e
      exact .inr ⟨ht, hb, (Option.some.inj e).symm⟩
    · rw [hp0_none ht hb] at e
      cases e
theorem rh0 {K : PySem.W.Frag} {ts : List (Addr × Str)} (ha : a ∉ ts.map (·.1)) (hn : (ts.map (·.1)).Nodup) : RH K (a :: ts.map (·.1)) (mh0 ns ts) (hp0 a vs ns (ts.map (·.1))) where
  len := by simp [mh0]
  nd := List.nodup_cons.mpr ⟨ha, hn⟩
  ob := fun n o ad h1 h2 => by
    cases n with
    | zero =>
      have e1 : O.rol (ns.map M.int) = o := by simpa [mh0] using h1
      have e2 : a = ad := by simpa using h2
      subst e1 e2
      exact ⟨_, _, hp0_scr, RVs.of_ints ns⟩
    | succ n =>
      have h1 : (ts.map fun p => O.tab p.1 p.2)[n]? = some o := by simpa [mh0] using h1
      have h2 : (ts.map (·.1))[n]? = some ad := by simpa using h2
      rw [List.getElem?_map] at h1 h2
      obtain ⟨p, hp, rfl⟩ := Option.map_eq_some_iff.mp h1
      rw [hp] at h2
      have e2 : p.1 = ad := by simpa using h2
      subst e2
      have hm : p.1 ∈ ts.map (·.1) := List.mem_map.mpr ⟨p, List.mem_of_getElem? hp, rfl⟩
      exact ⟨rfl, .nil (hp0_tab hm fun z => ha (z ▸ hm))⟩
end
theorem law_endM {P : Program} {w : World} {K : PySem.W.Frag} {mg mb : Str → Option Value} {k : Nat} {fa a : Addr} {cs : List (Addr × Addr × Str)} {fd : FuncData} {x : Str} {sp : MSp} {s₁ : Shared} {vs : List Value} {ns : List Int}
    (KX : K.In s₁.heap) (hns : s₁.heap.Ns mainGlobals mg) (hb : s₁.heap.Ns builtinsNs mb) (hbb : ∀ x : Str, x ≠ "__name__" → mb x = bootBuiltins x) (hlim : s₁.heap.NoLimit) (hg : s₁.gens = #[]) (hK : noLst K = true)
    (hT : ∀ p ∈ cs, s₁.heap.get? p.2.1 = some tabO) (nT : ∀ p ∈ cs, K.lookup p.2.1 = none) (C : ∀ p ∈ cs, PySem.W.CodeHd s₁.heap p.1 p.2.1) (hnd : (cs.map (·.2.1)).Nodup)
    (hbm : ∃ (bm : Addr) (ob : Obj), mg "__builtins__" = some (.ref bm) ∧ bm ≠ builtinsNs ∧ s₁.heap.get? bm = some ob ∧ ob.cls = .type "module" ∧ ob.dict = some builtinsNs ∧ ob.data = .plain)
    (ha : s₁.heap.get? a = some (scrO vs)) (hi : IntsAre vs ns) (hl : ns.length ≤ sizeLine) (hr : RoomG k callerA)
    (F : ∀ base : Heap, K.In base → base.Ns mainGlobals mg → (∀ p ∈ cs, TabB base mg p.1 p.2.1) → FnM P w K mg base k fa fd [x] sp) (hbind : ∀ (s : Shared) (u : Value), BindsTo s fd ⟨[u], []⟩ [(x, u)])
    (hsp : sp [.ref 0] (mh0 ns (cs.map (·.2))) (fun m _ => m = .bl true) fun _ _ => False) :
    codeAny (model P w) callerA (.call (.ref fa) ⟨[.ref a], []⟩) (fun r s' => r = .ok (.ret (.bool true)) ∧ OldK s₁.heap s'.heap ∧ s'.os = s₁.os ∧ AllBare s'.gens) s₁ := by
  have rv := vals_ints hi
  have atT : ∀ {b : Addr}, b ∈ (cs.map (·.2)).map (·.1) → ∃ p ∈ cs, p.2.1 = b := fun {b} hb => by
    obtain ⟨q, hq, e⟩ := List.mem_map.mp hb
    obtain ⟨p, hp, e2⟩ := List.mem_map.mp hq
    exact ⟨p, hp, by rw [e2]; exact e⟩
  have memT : ∀ p ∈ cs, p.2.1 ∈ (cs.map (·.2)).map (·.1) := fun p hp => List.mem_map.mpr ⟨p.2, List.mem_map.mpr ⟨p, hp, rfl⟩, rfl⟩
  have aT : a ∉ (cs.map (·.2)).map (·.1) := fun z => by
    obtain ⟨p, hp, e⟩ := atT z
    have q := hT p hp
    rw [e, ha] at q
    cases congrArg Obj.cls (Option.some.inj q)
  have neA : ∀ p ∈ cs, p.2.1 ≠ a := fun p hp z => aT (z ▸ memT p hp)
  generalize hH : hp0 a vs ns ((cs.map (·.2)).map (·.1)) = H
  have free : ∀ {b : Addr} {o : Obj}, s₁.heap.get? b = some o → o ≠ scrO vs → o ≠ tabO → H b = none := fun {b o} e n1 n2 => by
    subst hH
    refine hp0_none (fun z => ?_) fun z => ?_
    · obtain ⟨p, hp, rfl⟩ := atT z
      exact n2 (Option.some.inj (e.symm.trans (hT p hp)))
    · subst z
      exact n1 (Option.some.inj (e.symm.trans ha))
  have stays : ∀ {b : Addr} {o : Obj}, s₁.heap.get? b = some o → o ≠ scrO vs → o ≠ tabO → (hidT s₁.heap H).get? b = some o := fun e n1 n2 => hidT_get e (free e n1 n2)
  have kA : K.lookup a = none := by
    cases q : K.lookup a with
    | none => rfl
    | some o =>
      have e := KX a o q
      rw [ha] at e
      have z := List.all_eq_true.mp hK _ (He.lookup_mem q)
      rw [← Option.some.inj e] at z
      exact absurd z (by simp [scrO])
  have KB : K.In (hidT s₁.heap H) := fun b o e => by
    refine hidT_get (KX b o e) ?_
    subst hH
    refine hp0_none (fun z => ?_) fun z => ?_
    · obtain ⟨p, hp, rfl⟩ := atT z
      rw [nT p hp] at e; cases e
    · subst z
      rw [kA] at e; cases e
  have dicts : ∀ {b : Addr} {m : Str → Option Value}, s₁.heap.Ns b m → (hidT s₁.heap H).Ns b m := fun {b m} ⟨o, es, ep, e, d, r⟩ =>
    ⟨o, es, ep, stays e (fun z => by rw [z] at d; cases d) (fun z => by rw [z] at d; cases d), d, r⟩
  have md : L2.Mod K mg (hidT s₁.heap H) := ⟨KB, dicts hns, ⟨mb, dicts hb, hbb⟩, let ⟨mc, h1, h2⟩ := hlim; ⟨mc, dicts h1, h2⟩⟩
  have TB : ∀ p ∈ cs, TabB (hidT s₁.heap H) mg p.1 p.2.1 := fun p hp => by
    refine ⟨?_, ?_, fun z => ?_⟩
    · obtain ⟨o, us, file, tf, flags, tg, inF, text, tt, e1, r1, r2, r3, rest⟩ := C p hp
      refine ⟨o, us, file, tf, flags, tg, inF, text, tt, stays e1 (fun z => ?_) (fun z => ?_), r1, r2, r3, rest⟩
      · rw [z] at r2; cases r2
      · rw [z] at r2; cases r2; simp at r3
    · obtain ⟨bm, ob, b1, b2, b3, b4, b5, b6⟩ := hbm
      refine ⟨bm, ob, b1, b2, fun q => ?_, fun q => ?_, stays b3 (fun z => ?_) (fun z => ?_), b4, b5, b6⟩
      · obtain ⟨o, es, ep, e, hd, _⟩ := hns
        rw [q, e] at b3
        cases b3
        rw [hd] at b6; cases b6
      · rw [q, hT p hp] at b3
        cases b3
        cases b6
      · rw [z] at b6; cases b6
      · rw [z] at b6; cases b6
    · obtain ⟨o, es, ep, e, hd, _⟩ := hns
      rw [z, hT p hp] at e
      cases e
      cases hd
  have hok : HOk P w H s₁.heap := fun b u e => by
    subst hH
    rcases hp0_cases e with ⟨rfl, rfl⟩ | ⟨hb, _, rfl⟩
    · exact ⟨ha, by rw [List.length_map]; exact hl, vs, _, rv, ha⟩
    · obtain ⟨p, hp, rfl⟩ := atT hb
      exact hT p hp
  have e0 : Env0 P w K mg (hidT s₁.heap H) callerA [] s₁ H := ⟨rfl, md, fun b o e => of_hidT e, Nat.le_of_eq (hidT_size _ _), trivial, fun b hb => absurd (show b ∈ ([] : List Addr) from hb) (by simp), hok, .of_eq hg⟩
  have rh : RH K (a :: (cs.map (·.2)).map (·.1)) (mh0 ns (cs.map (·.2))) H := by
    subst hH
    exact rh0 aT (by rw [List.map_map]; exact hnd)
  refine codeAny_mono ((F _ KB (dicts hns) TB).run callerA [] s₁ H ⟨[.ref a], []⟩ [.ref a] [.ref a] (fun v _ => v = .bl true) (fun _ _ _ => False) hr e0 (hbind s₁ (.ref a)) (.cons rfl .nil)
    ⟨_, _, [.ref 0], _, _, rh, ⟨.ref a, [], rfl, ⟨a, rfl, rfl⟩, rfl⟩, hsp, ?_, ?_⟩) fun r s' h => ?_
  · rintro v H' ⟨f', mh', m, _, _, _, rm, q⟩
    subst q
    exact rm
  · rintro cls d H' ⟨_, _, _, _, _, _, _, _, _, _, _, _, _, _, _, z⟩
    exact z.elim
  cases r with
  | error e =>
    obtain ⟨_, _, _, _, _, _, _, _, _, _, _, _, z⟩ := h
    exact z.elim
  | ok fl =>
    cases fl with
    | next => exact False.elim h
    | brk => exact False.elim h
    | cont => exact False.elim h
    | ret u =>
      obtain ⟨v, H', os, bare, un, hok', r', q⟩ := h
      have q' : v = .bl true := q
      subst q'
      obtain rfl : u = Value.bool true := r'
      have kept : ∀ b o, (∀ p ∈ cs, p.2.1 ≠ b) → s₁.heap.get? b = some o → s'.heap.get? b = some o := fun b o nb e => by
        cases q : H b with
        | none => exact un.keep b o e q (fun z => absurd (show b ∈ ([] : List Addr) from z) (by simp)) (by simp)
        | some u =>
          rw [← hH] at q
          rcases hp0_cases q with ⟨rfl, rfl⟩ | ⟨hb, _, _⟩
          · have z2 := un.frzs b (scrO vs) (.lst (ns.map V.int)) (by rw [← hH]; exact q)
            obtain ⟨e2, _⟩ := hok' b _ z2
            rw [ha] at e; cases e
            exact e2
          · obtain ⟨p, hp, e'⟩ := atT hb
            exact absurd e' (nb p hp)
      have grown : ∀ p ∈ cs, ∃ more : Array Value, s'.heap.get? p.2.1 = some { cls := .none, data := .fields more } := fun p hp => by
        obtain ⟨more, z⟩ := un.tbls p.2.1 #[] (by rw [← hH]; exact hp0_tab (memT p hp) (neA p hp))
        exact ⟨_, hok' p.2.1 _ z⟩
      refine ⟨rfl, ⟨fun b o e => ?_, fun b o e => ?_⟩, os, bare⟩
      · by_cases hb : ∃ p ∈ cs, p.2.1 = b
        · obtain ⟨p, hp, rfl⟩ := hb
          obtain ⟨more, hm⟩ := grown p hp
          rw [hT p hp] at e
          cases e
          exact .inr (.inl ⟨((C p hp).tab (hT p hp)).isCodeTable, rfl, #[], more, rfl, by rw [Array.empty_append]; exact hm⟩)
        · exact .inl (kept b o (fun p hp z => hb ⟨p, hp, z⟩) e)
      · by_cases hb : ∃ p ∈ cs, p.2.1 = b
        · obtain ⟨p, hp, rfl⟩ := hb
          obtain ⟨more, hm⟩ := grown p hp
          exact ⟨_, hm⟩
        · exact ⟨o, kept b o (fun p hp z => hb ⟨p, hp, z⟩) e⟩
/-- what a law's text gives at the head's heap h -/
def LawM (l : PySem.W.OpenLaw) (w : World) (K : PySem.W.Frag) (k n : Nat) (x : Str) (mg : Str → Option Value) (fa : Addr) (h : Heap) : Prop :=
  ∃ (fd : FuncData) (cs : List (Addr × Addr × Str)) (sp : MSp), noLst K = true ∧ (∀ p ∈ cs, h.get? p.2.1 = some tabO) ∧ (∀ p ∈ cs, K.lookup p.2.1 = none) ∧ (∀ p ∈ cs, PySem.W.CodeHd h p.1 p.2.1) ∧ (cs.map (·.2.1)).Nodup ∧ (∀ (s : Shared) (u : Value), BindsTo s fd ⟨[u], []⟩ [(x, u)]) ∧
    (∀ ns : List Int, ns.length ≤ n → (∀ z ∈ ns, Builtin.Int.intBits z ≤ 1048576) → sp [.ref 0] (mh0 ns (cs.map (·.2))) (fun m _ => m = .bl true) fun _ _ => False) ∧
    ∀ base : Heap, K.In base → base.Ns mainGlobals mg → (∀ p ∈ cs, TabB base mg p.1 p.2.1) → FnM l.prog w K mg base k fa fd [x] sp
theorem walk_M {l : PySem.W.OpenLaw} {n k : Nat} {q : Program} {loose : List Str} {XP : (Str → Option Value) → Heap → Prop} {YP : World → Heap → Prop} {d : DefRec} {x : Str}
    (hn : l.most = some n) (hn2 : n ≤ sizeLine) (hdf : d.params.defaults = []) (hr : RoomG k callerA)
    (F : ∀ (w : World) (mg : Str → Option Value) (fa : Addr) (h : Heap), YP w h → h.Ns mainGlobals mg → mg d.name = some (.ref fa) → ∃ K : PySem.W.Frag, K.In h ∧ LawM l w K k n x mg fa h) :
    PySem.W.WalkO q loose XP YP l.row.toRowW d [] (fun f vs => PySem.call f vs) := by
  refine Att.attach_callB hn hdf fun w s₀ s₁ mg mb fa o pm cd doc a vs ns G Y ho hd hcd hmg hobj hints hlen hbits hg => ?_
  obtain ⟨K, KX, fd, cs, sp, hK, hT, nT, C, hnd, hb, hsp, hF⟩ := F w mg fa _ Y G.T.g hmg
  exact law_endM KX G.T.g G.T.b G.T.builtins G.T.nolimit hg hK hT nT C hnd G.T.bmain hobj hints (Nat.le_trans hlen hn2) hr hF hb (hsp ns hlen hbits)
end Mn
end
section
set_option maxHeartbeats 2000000
namespace Mn
open PySem PySem.Spec PyProof.Rows L2

/-! ### how calls bind -/
def pick {α : Type} (idx : List Nat) (l : List α) : List α := idx.filterMap fun j => l[j]?
theorem pick_vals {vs : List V} {us : List Value} (h : Vals vs us) : ∀ idx : List Nat, Vals (pick idx vs) (pick idx us)
  | [] => .nil
  | j :: r => by
    unfold pick
    rw [List.filterMap_cons, List.filterMap_cons]
    have hl := h.length
    cases e : vs[j]? with
    | none =>
      have : us[j]? = none := by rw [List.getElem?_eq_none_iff] at e ⊢; omega
      rw [this]
      exact pick_vals h r
    | some v =>
      obtain ⟨u, hu, ru⟩ := h.get e
      rw [hu]
      exact .cons ru (pick_vals h r)
theorem pick_rvs {K : PySem.W.Frag} {f : List Addr} {H : Hp} {ms : List M} {vs : List V} (h : RVs K f H ms vs) : ∀ idx : List Nat, RVs K f H (pick idx ms) (pick idx vs)
  | [] => rfl
  | j :: r => by
    unfold pick
    rw [List.filterMap_cons, List.filterMap_cons]
    have hl := h.length
    cases e : ms[j]? with
    | none =>
      have : vs[j]? = none := by rw [List.getElem?_eq_none_iff] at e ⊢; omega
      rw [this]
      exact pick_rvs h r
    | some m =>
      obtain ⟨v, hv, rv⟩ := h.get e
      rw [hv]
      exact ⟨_, _, rfl, rv, pick_rvs h r⟩
section
variable {K : PySem.W.Frag} {x qual : Str} {params : Arguments} {body : List Stmt} {scope : Scope} {kws : List (Str × V)} {f : Addr} {fd : FuncData} {ps : List Str}
/-- no default is needed -/
theorem kb_all (F : FunD K x qual params body scope [] kws f fd) (n : Nat) (ks : List Str) (idx : List Nat)
    (h : ∀ (kV doc pm : Value) (an : Option Addr) (cdv ct : Value) (us ws : List Value), us.length = n → ws.length = ks.length → bindArgs (PySem.W.fnOf x qual params body scope .none kV doc pm an cdv ct) ⟨us, ks.zip ws⟩ = pure (ps.zip (pick idx (us ++ ws)))) :
    KBm K fd ps n ks (fun us ws => pick idx (us ++ ws)) (fun ms ns => pick idx (ms ++ ns)) where
  to := fun s us ws _ h1 h2 => by
    obtain ⟨oc, od, dV, kV, doc, pm, an, cdv, ct, osl, rfl, lk, hcd, hd, _⟩ := F.ex
    rcases hd with ⟨_, rfl⟩ | ⟨z, _⟩
    · exact .of_eq (h _ _ _ _ _ _ us ws h1 h2)
    · exact absurd rfl z
  rel := fun f H ms ns vs zs us ws _ _ r1 r2 v1 v2 => ⟨_, pick_vals (v1.append v2) idx, pick_rvs (r1.append r2) idx⟩
/-- keyword-only defaults fill up: ms those that lack, dM their values -/
theorem kb_kw (F : FunD K x qual params body scope [] kws f fd) (n : Nat) (ks : List Str) (ms : List (Str × V)) (dM : List M) (idx : List Nat) (hk : kws ≠ []) (hms : ∀ q ∈ ms, q ∈ kws) (hd : ∀ f H, RVs K f H dM (ms.map (·.2)))
    (h : ∀ (D : Addr) (doc pm : Value) (an : Option Addr) (cdv ct : Value) (us mv ws : List Value), us.length = n → mv.length = ms.length → ws.length = ks.length →
      KwChain D ((ms.map (·.1)).zip mv) (bindArgs (PySem.W.fnOf x qual params body scope .none (.ref D) doc pm an cdv ct) ⟨us, ks.zip ws⟩) (ps.zip (pick idx (us ++ (mv ++ ws))))) :
    ∃ mv : List Value, KBm K fd ps n ks (fun us ws => pick idx (us ++ (mv ++ ws))) (fun ns zs => pick idx (ns ++ (dM ++ zs))) := by
  obtain ⟨oc, od, dV, kV, doc, pm, an, cdv, ct, osl, rfl, lk, hcd, hdv, hkw⟩ := F.ex
  rcases hdv with ⟨_, rfl⟩ | ⟨z, _⟩
  · rcases hkw with z | ⟨D, rfl, hD⟩
    · exact absurd z hk
    · obtain ⟨mv, l, hv, hl⟩ := kwd_vals (K := K) (D := D) (ms := ms) fun q hq => hD q (hms q hq)
      exact ⟨mv, fun s us ws hK h1 h2 => L2.BindsTo.of_looks fun M => KwChain.looks hK hl (h D _ _ _ _ _ us mv ws h1 l h2), fun f H ns zn vs zs us ws _ _ r1 r2 v1 v2 => ⟨_, pick_vals (v1.append (hv.append v2)) idx, pick_rvs (r1.append ((hd f H).append r2)) idx⟩⟩
  · exact absurd rfl z
end
end Mn
end
section
set_option maxHeartbeats 1000000
namespace Mn
open PySem PySem.Spec PyProof.Rows L2

/-! ### enumerate and zip over lists and tuples -/
def SqS (K : PySem.W.Frag) (H : Hp) : Src → List V → Prop
  | .l a, xs => SqL K H a xs
  | .t a, xs => SqT K H a xs
def ObS (h : Heap) : Src → Array Value → Prop
  | .l a, xs => h.IsList a xs
  | .t a, xs => h.IsTuple a xs
def ItS (h : Heap) (it : Addr) : Src → Nat → Prop
  | .l a, i => h.IsListIter it a i
  | .t a, i => h.IsTupleIter it a i
def itO : Src → Obj
  | .l a => { cls := .type "list_iterator", data := .fields #[.ref a, .int 0 0] }
  | .t a => { cls := .type "tuple_iterator", data := .fields #[.ref a, .int 0 0] }
theorem SrcIs.sqs {K : PySem.W.Frag} {H : Hp} {src : Src} {xs : List V} (h : SrcIs K H src xs) : SqS K H src xs := by
  cases src with
  | l a => exact .inl h
  | t a => exact h
theorem ItS.at {h h' : Heap} {it : Addr} {src : Src} {i : Nat} (x : ItS h it src i) (k : ∀ o, h.get? it = some o → h'.get? it = some o) : ItS h' it src i := by
  cases src with
  | l a => exact Heap.IsListIter.at x k
  | t a => exact Heap.IsTupleIter.at x k
theorem ItS.obj {h : Heap} {it : Addr} {src : Src} {i : Nat} (x : ItS h it src i) : ∃ o : Obj, h.get? it = some o ∧ (o.cls = .type "list_iterator" ∨ o.cls = .type "tuple_iterator") ∧ ∀ v, o.data ≠ .cell v := by
  cases src with
  | l a => obtain ⟨o, e, c, d⟩ := x; exact ⟨o, e, .inl c, fun v q => by rw [d] at q; cases q⟩
  | t a => obtain ⟨o, e, c, d⟩ := x; exact ⟨o, e, .inr c, fun v q => by rw [d] at q; cases q⟩
theorem ObS.obj {h : Heap} {src : Src} {xs : Array Value} (x : ObS h src xs) : ∃ o : Obj, h.get? src.a = some o ∧ (o.cls = .type "list" ∨ o.cls = .type "tuple") := by
  cases src with
  | l a => obtain ⟨o, e, c, _⟩ := x; exact ⟨o, e, .inl c⟩
  | t a => obtain ⟨o, e, c, _⟩ := x; exact ⟨o, e, .inr c⟩
theorem its_new {h : Heap} {it : Addr} {src : Src} (e : h.get? it = some (itO src)) : ItS h it src 0 := by
  cases src with
  | l a => exact ⟨_, e, rfl, rfl⟩
  | t a => exact ⟨_, e, rfl, rfl⟩
theorem begins_s (src : Src) (items : Array Value) : Begins (.ref src.a) (itO src) fun h => ObS h src items := by
  cases src with
  | l a => exact begins_list a items
  | t a => exact begins_tuple a items
theorem draws_s {prog : Program} {w : World} {A : Around} (hh : A.handled = none) (it : Addr) (src : Src) (hne : src.a ≠ it) (items : Array Value) :
    Draws prog w A it [it, src.a] items.size (fun i v => items[i]? = some v) (fun i h => ItS h it src i ∧ ObS h src items) := by
  cases src with
  | l a => exact Draws.list hh it a hne items
  | t a => exact Draws.tuple hh it a hne items
section
variable {X : Cx} {pins : List (Addr × Obj)} {σ : L2.St} {H : Hp} {s : Shared} {src : Src} {xs ys : List V}
theorem sqs_rd (I : Inv X pins σ H s) (h : SqS X.K H src xs) : ∃ its : List Value, Vals xs its ∧ ObS s.heap src its.toArray ∧ xs.length ≤ sizeLine := by
  cases src with
  | l a => obtain ⟨its, r, p, z⟩ := I.list h; exact ⟨its, r, p.isList, z⟩
  | t a => obtain ⟨its, r, p, z⟩ := I.tuple h; exact ⟨its, r, p, z⟩
theorem sqs_inj (I : Inv X pins σ H s) (h : SqS X.K H src xs) (k : SqS X.K H src ys) : xs = ys := by
  cases src with
  | l a => exact I.list_inj h k
  | t a => exact I.tuple_inj h k
end
def IteS (K : PySem.W.Frag) (src : Src) : It :=
  ⟨fun i H => ∃ (xs : List V) (x : V), SqS K H src xs ∧ xs[i]? = some x, fun i H v H' => ∃ T x, v = .ref T ∧ H T = none ∧ H' = upd H T (.tup [.int (i : Nat), x]) ∧ ∀ xs, SqS K H src xs → xs[i]? = some x, fun i H => ∃ xs : List V, SqS K H src xs ∧ xs.length = i⟩
theorem turn_enumS {P : Program} {w : World} {K : PySem.W.Frag} {elts : List Expr} {kk : Nat} {tpos : Pos} (src : Src) (e it : Addr) :
    Turn P w K (.Tuple elts kk tpos) (IteS K src) [e, it] e (fun i h => (∃ old, IsEnum h e it ((i : Nat) : Int) old) ∧ ItS h it src i ∧ e ≠ it) where
  mem := by simp
  obj := fun i h st b hb => by
    obtain ⟨⟨old, he⟩, hi, _⟩ := st
    obtain ⟨o, ho, _, hd⟩ := hi.obj
    have e' : b = e ∨ b = it := by simpa using hb
    rcases e' with z | z
    · rw [z]; exact ⟨_, he, fun v q => nomatch q⟩
    · rw [z]; exact ⟨o, ho, hd⟩
  keep := fun i h h' st k => let ⟨⟨old, he⟩, hi, hne⟩ := st; ⟨⟨old, k e (by simp) _ he⟩, hi.at fun o q => k it (by simp) o q, hne⟩
  item := by
    intro X hP hw hK hc i pins s σ H E I hf st hg
    subst hP hw hK
    obtain ⟨⟨old, he⟩, hit, hne⟩ := st
    obtain ⟨xs, x, hq, hx⟩ := hg
    obtain ⟨its, rv, p, hz⟩ := sqs_rd I hq
    obtain ⟨u, hu, ru⟩ := rv.get hx
    have hel : e < s.heap.objs.size := Heap.lt_size he
    obtain ⟨oi, hoi, hci, _⟩ := hit.obj
    obtain ⟨oa, hoa, hca⟩ := p.obj
    have hil : it < s.heap.objs.size := Heap.lt_size hoi
    have nae : src.a ≠ e := fun z => by
      rw [z, he] at hoa; cases hoa; rcases hca with q | q <;> (injection q with q; exact absurd q (by decide))
    have nai : src.a ≠ it := fun z => by
      rw [z, hoi] at hoa; cases hoa; rcases hca with q | q <;> rcases hci with q' | q' <;> rw [q] at q' <;> (injection q' with q'; exact absurd q' (by decide))
    have hlt : i < its.toArray.size := by
      have := (List.getElem?_eq_some_iff.mp hu).1
      simpa using this
    refine wpAny_pyNext_enum_itemC (D := draws_s (A := X.A.in1) (show X.A.in1.handled = none from I.ok.hd hc) it src nai its.toArray) he ⟨hit, p⟩ hlt hne (by simp [hne, Ne.symm nae]) fun x' h' tk hx' ho st' hT hsz hk => ?_
    have hxu : x' = u := by
      have hx' : its.toArray[i]? = some x' := hx'
      have e2 : its.toArray[i]? = some u := by simpa using hu
      rw [e2] at hx'; exact (Option.some.inj hx').symm
    subst hxu
    obtain ⟨hit', _⟩ := st'
    refine ⟨_, rfl, wpAny_letOwnedTupleGo_enum (s := { s with heap := h', toks := tk + 1 }) ho fun h'' he' sb => ?_⟩
    have hT2 : h''.get? s.heap.objs.size = some { cls := .type "tuple", data := .seq #[.int i tk, x'] } := (sb.2 _ (Nat.ne_of_gt hel)).trans hT
    have new : ObjOk X.prog X.w (upd H s.heap.objs.size (.tup [.int (i : Nat), x])) h'' s.heap.objs.size (.tup [.int (i : Nat), x]) :=
      ⟨by show 2 ≤ sizeLine; decide, [.int i tk, x'], .cons ⟨_, rfl⟩ (.cons ru .nil), ⟨_, hT2, rfl, _, rfl⟩⟩
    have I1 : Inv X pins σ (upd H s.heap.objs.size (.tup [.int (i : Nat), x])) { s with heap := h'', toks := tk + 1 } :=
      I.turnedNew (ch := [e, it]) (fun b ob hb q => (sb.2 b (fun z => hb (by simp [z]))).trans (hk b ob (fun z => hb (by simp [z])) (fun z => hb (by simp [z])) q)) hf (Nat.le_refl _) new
    refine ⟨.ref s.heap.objs.size, _, I1, rfl, ⟨_, x, rfl, I.hok.fresh (Nat.le_refl _), rfl, fun ys hy => by rw [sqs_inj I hy hq]; exact hx⟩, ⟨⟨x', ?_⟩, hit'.at fun o q => (sb.2 it (Ne.symm hne)).trans q, hne⟩, fun b hb => ?_⟩
    · have e1 : ((i + 1 : Nat) : Int) = (i : Int) + 1 := by omega
      rw [e1]; exact he'
    · have hb' : b < s.heap.objs.size := by
        have e' : b = e ∨ b = it := by simpa using hb
        rcases e' with z | z
        · rw [z]; exact hel
        · rw [z]; exact hil
      rw [upd_ne (Nat.ne_of_lt hb')]
      exact (hf b hb).1
  done := by
    intro X hP hw hK hc i pins s σ H E I hf st hg
    subst hP hw hK
    obtain ⟨⟨old, he⟩, hit, hne⟩ := st
    obtain ⟨xs, hq, hx⟩ := hg
    obtain ⟨its, rv, p, hz⟩ := sqs_rd I hq
    obtain ⟨oi, hoi, hci, _⟩ := hit.obj
    obtain ⟨oa, hoa, hca⟩ := p.obj
    have nai : src.a ≠ it := fun z => by
      rw [z, hoi] at hoa; cases hoa; rcases hca with q | q <;> rcases hci with q' | q' <;> rw [q] at q' <;> (injection q' with q'; exact absurd q' (by decide))
    obtain ⟨f0, f1, f2, f3, f4, f5⟩ := hf it (by simp)
    have hl := rv.length
    have hn : its.toArray.size = i := by simp; omega
    refine wpAny_pyNext_enum_endD (D := draws_s (A := X.A.in1) (show X.A.in1.handled = none from I.ok.hd hc) it src nai its.toArray) he (by rw [hn]; exact ⟨hit, p⟩) fun h' eb => ⟨rfl, I.turned (t' := s.toks) (fun b o hb q => eb b o hb q) f0 f1 f3 f4 f5⟩
  self := fun A i s Q E st h => let ⟨⟨_, he⟩, _⟩ := st; wpAny_pyIter_enum he h
set_option maxHeartbeats 2000000 in
theorem meets_enum1 {v : Value} {o : Obj} {H : Heap → Prop} (B : Begins v o H) :
    Meets (Builtin.«enumerate.__new__» ⟨[.type "enumerate", v], []⟩) (fun _ R s => H s.heap ∧
      R (.ok (.ret (.ref (s.heap.push o).objs.size))) { s with heap := (s.heap.push o).push { cls := .type "enumerate", data := .fields #[.none, .bool false, .ref s.heap.objs.size, rawInt 0, .none, .none] } }) :=
  .of_wp fun prog w A R s h => by
    obtain ⟨hp, g, d, tk, os⟩ := s; obtain ⟨h1, h⟩ := h
    have hsub := sub_enumerate
    have q1 : ∀ {A' : Around} {E : Value → Shared → Prop} {Q : Value → Shared → Prop}, Q (.ref hp.objs.size) ⟨hp.push o, g, d, tk, os⟩ → wpAny (model prog w) A' (pyIter v) Q E ⟨hp, g, d, tk, os⟩ :=
      fun q => B.iter prog w _ _ ⟨hp, g, d, tk, os⟩ _ h1 q
    wp_walk
    refine wpAny_stack_any fun st => wpAny_pure ?_
    split
    · rename_i c _ _ _ _ _
      cases (c == Value.type "enumerate")
      · wp_walk using q1
        exact ⟨_, rfl, h⟩
      · wp_walk using q1
        exact ⟨_, rfl, h⟩
    · wp_walk using q1
      exact ⟨_, rfl, h⟩
theorem enum_begins1 {prog : Program} {w : World} {A : Around} {E : Value → Shared → Prop} {s : Shared} {v : Value} {o : Obj} {H : Heap → Prop} {Q : Value → Shared → Prop} (B : Begins v o H) (h1 : H s.heap)
    (h : ∀ h', IsEnum h' (s.heap.objs.size + 1) s.heap.objs.size 0 .none → h'.get? s.heap.objs.size = some o → h'.objs.size = s.heap.objs.size + 2 →
      (∀ b o, s.heap.get? b = some o → h'.get? b = some o) → Q (.ref (s.heap.objs.size + 1)) { s with heap := h' }) :
    wpAny (model prog w) A (call (.type "enumerate") [v]) Q E s := by
  refine callType_new F.called_enumerate (by decide) (F.typeCall_enumerate_1 _) (F.newCall_enumerate_1 _) (fun obj => F.args_object_init_2 obj _) F.entry_enumerate_new
    (meets_enum1 B) ⟨h1, ?_⟩
  have hz : (s.heap.push o).objs.size = s.heap.objs.size + 1 := Heap.size_push ..
  show _ ∧ _
  rw [hz]
  have he : IsEnum ((s.heap.push o).push { cls := .type "enumerate", data := .fields #[.none, .bool false, .ref s.heap.objs.size, rawInt 0, .none, .none] }) (s.heap.objs.size + 1) s.heap.objs.size 0 .none := by
    have := Heap.get?_push_size (s.heap.push o) (o := { cls := .type "enumerate", data := .fields #[.none, .bool false, .ref s.heap.objs.size, rawInt 0, .none, .none] }) rfl
    rw [hz] at this; exact this
  refine ⟨⟨_, he, rfl⟩, h _ he (Heap.get?_push_of_some _ (Heap.get?_push_size _ B.free)) (by rw [Heap.size_push, hz]) fun b o x => Heap.get?_push_of_some _ (Heap.get?_push_of_some _ x)⟩
def iEnumS (K : PySem.W.Frag) (ta : TA) : TI := fun σ H R => ta σ H fun vs H1 => ∃ src xs, vs = [.ref (Src.a src)] ∧ SqS K H1 src xs ∧ R (IteS K src) H1
theorem pi_enumS {X : Cx} {e : Expr} {ta : TA} {p pos tpos : Pos} {elts : List Expr} {kk : Nat} (hg : Gl X "enumerate") (hm : X.mg "enumerate" = none) (ha : PA X [e] ta) (hs : starEach [e] X.env = [(false, eval e X.env)] := by rfl) :
    PI X (.Tuple elts kk tpos) (.Call (.Name "enumerate" p) [e] [] pos) (iEnumS X.K ta) := by
  refine ⟨fun pins s σ H R I h => ?_⟩
  refine Call_ (ld_blt I hg hm boot_enumerate (PyProof.Rows.callWith_type1 (thn (ha.run pos pins s σ H _ I h) fun us s1 ⟨vs, H1, I1, r1, q1⟩ => ?_) hs rfl))
  obtain ⟨src, xs, ex, hq, q⟩ := q1
  subst ex
  cases r1 with
  | cons r rr =>
    cases rr
    cases r
    obtain ⟨its, rv, p', hz⟩ := sqs_rd I1 hq
    refine enum_begins1 (begins_s src its.toArray) p' fun h' he hit hsz hk => wpAny_pyIter_enum he ?_
    have I2 : Inv X pins σ H1 { s1 with heap := h' } := I1.kept (t' := s1.toks) hk
    refine ⟨s1.heap.objs.size + 1, [s1.heap.objs.size + 1, s1.heap.objs.size], _, _, H1, rfl, I2, turn_enumS src (s1.heap.objs.size + 1) s1.heap.objs.size, ⟨⟨.none, he⟩, its_new hit, Nat.succ_ne_self _⟩, fun b hb => ?_, q⟩
    have e' : b = s1.heap.objs.size + 1 ∨ b = s1.heap.objs.size := by simpa using hb
    have hle : s1.heap.objs.size ≤ b := by
      rcases e' with z | z
      · rw [z]; exact Nat.le_add_right _ _
      · rw [z]; exact Nat.le_refl _
    exact I1.fpOk hle (I1.hok.fresh hle)
def enumM (xs : List M) : List M := (List.range xs.length).map fun (i : Nat) => M.tup [.int (i : Int), xs.getD i .non]
theorem enumM_len (xs : List M) : (enumM xs).length = xs.length := by simp [enumM]
theorem enumM_at {xs : List M} {i : Nat} {m : M} (h : (enumM xs)[i]? = some m) : ∃ x, xs[i]? = some x ∧ m = .tup [.int (i : Int), x] := by
  have hl : i < xs.length := by have := (List.getElem?_eq_some_iff.mp h).1; rwa [enumM_len] at this
  unfold enumM at h
  rw [List.getElem?_map, List.getElem?_range hl] at h
  refine ⟨xs[i], by simp, ?_⟩
  have := Option.some.inj h
  rw [← this]
  simp [List.getD, hl]
def enumQ (Q : List M → (MH → Prop) → MH → Prop) (ms : List M) (h : MH) : Prop := ∃ m xs chk, ms = [m] ∧ SeqM h m xs chk ∧ Q (enumM xs) chk h
def wEnum (wa : MTA) : MTI := fun sm h Q E => wa sm h (enumQ Q) E
section
variable {X : Cx} {W : WX} {pos p tpos : Pos} {elts : List Expr} {kk : Nat}
theorem i_enum {a : Expr} {wa : MTA} (hg : Gl X "enumerate") (hm : X.mg "enumerate" = none) (ha : AOk X W [a] wa) (hs : starEach [a] X.env = [(false, eval a X.env)] := by rfl) :
    IOk X W (.Tuple elts kk tpos) (.Call (.Name "enumerate" p) [a] [] pos) (wEnum wa) :=
  PI.mono (pi_enumS hg hm ha hs) fun σ H R ⟨f, sm, mh, Q', E, a, q, k⟩ => a.goA q fun f1 mh1 H1 ms vs p x a1 r1 ⟨m, xs, chk, e, hq, q1⟩ => by
    subst e
    obtain ⟨v, r, rfl, rv, rn⟩ := r1
    have e2 : r = [] := rn
    subst e2
    obtain ⟨hc, src, e, hsrc⟩ := seq_src a1.h rv hq
    subst e
    obtain ⟨vs, h1, _⟩ := hsrc f1 mh1 H1 (List.prefix_refl _) (Ext.refl _) a1.h hc
    refine ⟨src, vs, rfl, h1.sqs, k _ _ ⟨f1, mh1, _, chk, p, x, a1.h, fun f2 mh2 H2 p2 x2 r2 hc2 => ?_, q1⟩⟩
    obtain ⟨vs2, h2, rr⟩ := hsrc f2 mh2 H2 p2 x2 r2 hc2
    refine ⟨fun i m hm => ?_, fun i hi => ⟨vs2, h2.sqs, by rw [← rr.length, ← enumM_len]; exact hi⟩⟩
    obtain ⟨y, hy, rfl⟩ := enumM_at hm
    obtain ⟨v, hv, rv⟩ := rr.get hy
    refine ⟨⟨vs2, v, h2.sqs, hv⟩, fun z H3 hz => ?_⟩
    obtain ⟨T, x', rfl, hT, rfl, hx⟩ := hz
    have := hx vs2 h2.sqs
    rw [hv] at this; cases this
    have xt : Ext H2 (upd H2 T (.tup [.int (i : Nat), v])) := Ext.new hT
    exact ⟨r2.new hT, xt, T, [.int (i : Nat), v], rfl, .inl (.inl (upd_same)), _, _, rfl, rfl, _, _, rfl, rv.mono (List.prefix_refl _) xt, rfl⟩
end
end Mn
end
section
set_option maxHeartbeats 1000000
namespace Mn
open PySem PySem.Spec PyProof.Rows L2

/-! ### zip over lists and tuples -/
theorem zsep {z TI TO i1 i2 a b : Addr} (D : ZipApart z TI TO i1 i2 a b) (n1 : TI ≠ a) (n2 : TI ≠ b) : ZipSep2 z TI TO i1 i2 [i1, a] [i2, b] where
  TIz := D.TIz
  TOz := D.TOz
  TITO := D.TITO
  TIi1 := D.TIi1
  mem1 := by simp
  zf1 := by simp [Ne.symm D.i1z, Ne.symm D.l1z]
  Tf1 := by simp [D.TOi1, Ne.symm D.l1TO]
  TIi2 := D.TIi2
  mem2 := by simp
  zf2 := by simp [Ne.symm D.i2z, Ne.symm D.l2z]
  Tf2 := by simp [D.TOi2, Ne.symm D.l2TO]
  sep1_2 := by simp [D.i12, Ne.symm D.l2i1]
  sep2_1 := by simp [Ne.symm D.i12, Ne.symm D.l1i2]
def ItzS (K : PySem.W.Frag) (a b : Src) : It :=
  ⟨fun i H => ∃ (xs ys : List V) (x y : V), SqS K H a xs ∧ SqS K H b ys ∧ xs[i]? = some x ∧ ys[i]? = some y,
    fun i H v H' => ∃ T x y, v = .ref T ∧ H T = none ∧ H' = upd H T (.tup [x, y]) ∧ (∀ xs, SqS K H a xs → xs[i]? = some x) ∧ ∀ ys, SqS K H b ys → ys[i]? = some y,
    fun i H => ∃ xs ys : List V, SqS K H a xs ∧ SqS K H b ys ∧ i ≤ xs.length ∧ i ≤ ys.length ∧ (i = xs.length ∨ i = ys.length)⟩
theorem turn_zipS {P : Program} {w : World} {K : PySem.W.Frag} {elts : List Expr} {kk : Nat} {tpos : Pos} {a b : Src} {z TI TO i1 i2 : Addr} (D : ZipApart z TI TO i1 i2 a.a b.a) (n1 : TI ≠ a.a) (n2 : TI ≠ b.a) :
    Turn P w K (.Tuple elts kk tpos) (ItzS K a b) [z, TI, TO, i1, i2] z (fun i h => IsZip h z TI TO .none ∧ IsPair h TI (.ref i1) (.ref i2) ∧ (∃ x y, IsPair h TO x y) ∧ ItS h i1 a i ∧ ItS h i2 b i) where
  mem := by simp
  obj := fun i h st c hc => by
    obtain ⟨hz, hTI, ⟨x, y, hTO⟩, h1, h2⟩ := st
    obtain ⟨o1, e1, _, d1⟩ := h1.obj
    obtain ⟨o2, e2, _, d2⟩ := h2.obj
    have e' : c = z ∨ c = TI ∨ c = TO ∨ c = i1 ∨ c = i2 := by simpa using hc
    rcases e' with q | q | q | q | q
    · rw [q]; exact ⟨_, hz, fun v q => nomatch q⟩
    · rw [q]; exact ⟨_, hTI, fun v q => nomatch q⟩
    · rw [q]; exact ⟨_, hTO, fun v q => nomatch q⟩
    · rw [q]; exact ⟨o1, e1, d1⟩
    · rw [q]; exact ⟨o2, e2, d2⟩
  keep := fun i h h' st k => by
    obtain ⟨hz, hTI, ⟨x, y, hTO⟩, h1, h2⟩ := st
    exact ⟨k z (by simp) _ hz, k TI (by simp) _ hTI, ⟨x, y, k TO (by simp) _ hTO⟩, h1.at fun o q => k i1 (by simp) o q, h2.at fun o q => k i2 (by simp) o q⟩
  item := by
    intro X hP hw hK hc i pins s σ H E I hf st hg
    subst hP hw hK
    obtain ⟨hz, hTI, ⟨x0, y0, hTO⟩, h1, h2⟩ := st
    obtain ⟨xs, ys, x, y, hqx, hqy, hx, hy⟩ := hg
    obtain ⟨its, rv, p, _⟩ := sqs_rd I hqx
    obtain ⟨its2, rv2, p2, _⟩ := sqs_rd I hqy
    obtain ⟨u, hu, ru⟩ := rv.get hx
    obtain ⟨u2, hu2, ru2⟩ := rv2.get hy
    have hzl : z < s.heap.objs.size := Heap.lt_size hz
    have l1 : i < its.toArray.size := by have := (List.getElem?_eq_some_iff.mp hu).1; simpa using this
    have l2 : i < its2.toArray.size := by have := (List.getElem?_eq_some_iff.mp hu2).1; simpa using this
    have hh : X.A.in1.handled = none := I.ok.hd hc
    refine wpAny_pyNext_zipD2_item (zsep D n1 n2) (D1 := draws_s (A := X.A.in1) hh i1 a D.l1i1 its.toArray) (D2 := draws_s (A := X.A.in1) hh i2 b D.l2i2 its2.toArray) hz hTI hTO ⟨h1, p⟩ ⟨h2, p2⟩ l1 l2 fun x1 x2 h' tk y1 y2 z' TO' st1 st2 hT hsz hk => ?_
    have e1 : x1 = u := by
      have y1 : its.toArray[i]? = some x1 := y1
      have e2 : its.toArray[i]? = some u := by simpa using hu
      rw [e2] at y1; exact (Option.some.inj y1).symm
    have e2 : x2 = u2 := by
      have y2 : its2.toArray[i]? = some x2 := y2
      have e2 : its2.toArray[i]? = some u2 := by simpa using hu2
      rw [e2] at y2; exact (Option.some.inj y2).symm
    subst e1 e2
    obtain ⟨h1', _⟩ := st1
    obtain ⟨h2', _⟩ := st2
    refine ⟨_, rfl, wpAny_letOwnedTupleGo_zip (s := { s with heap := h', toks := tk }) z' fun h'' z'' sb => ?_⟩
    have hT2 : h''.get? s.heap.objs.size = some { cls := .type "tuple", data := .seq #[x1, x2] } := (sb.2 _ (Nat.ne_of_gt hzl)).trans hT
    have new : ObjOk X.prog X.w (upd H s.heap.objs.size (.tup [x, y])) h'' s.heap.objs.size (.tup [x, y]) :=
      ⟨by show 2 ≤ sizeLine; decide, [x1, x2], .cons ru (.cons ru2 .nil), ⟨_, hT2, rfl, _, rfl⟩⟩
    have I1 : Inv X pins σ (upd H s.heap.objs.size (.tup [x, y])) { s with heap := h'', toks := tk } :=
      I.turnedNew (t' := tk) (ch := [z, TI, TO, i1, i2]) (fun c o hb q => (sb.2 c (fun q' => hb (by simp [q']))).trans (hk c o (fun q' => hb (by simp [q'])) (fun q' => hb (by simp [q'])) (fun q' => hb (by simp [q'])) (fun q' => hb (by simp [q'])) q)) hf (Nat.le_refl _) new
    refine ⟨.ref s.heap.objs.size, _, I1, rfl, ⟨_, x, y, rfl, I.hok.fresh (Nat.le_refl _), rfl, fun l hl => by rw [sqs_inj I hl hqx]; exact hx, fun l hl => by rw [sqs_inj I hl hqy]; exact hy⟩, ⟨z'', ?_, ⟨x1, x2, ?_⟩, ?_, ?_⟩, fun c hcm => ?_⟩
    · exact (sb.2 _ D.TIz).trans (hk _ _ D.TIz D.TITO D.TIi1 D.TIi2 hTI)
    · exact (sb.2 _ D.TOz).trans TO'
    · exact h1'.at fun o q => (sb.2 _ D.i1z).trans q
    · exact h2'.at fun o q => (sb.2 _ D.i2z).trans q
    · have hlt : c < s.heap.objs.size := by
        have e' : c = z ∨ c = TI ∨ c = TO ∨ c = i1 ∨ c = i2 := by simpa using hcm
        rcases e' with q | q | q | q | q
        · rw [q]; exact hzl
        · rw [q]; exact Heap.lt_size hTI
        · rw [q]; exact Heap.lt_size hTO
        · rw [q]; obtain ⟨_, e1, _⟩ := h1.obj; exact Heap.lt_size e1
        · rw [q]; obtain ⟨_, e2, _⟩ := h2.obj; exact Heap.lt_size e2
      rw [upd_ne (Nat.ne_of_lt hlt)]
      exact (hf c hcm).1
  done := by
    intro X hP hw hK hc i pins s σ H E I hf st hg
    subst hP hw hK
    obtain ⟨hz, hTI, ⟨x0, y0, hTO⟩, h1, h2⟩ := st
    obtain ⟨xs, ys, hqx, hqy, le1, le2, hend⟩ := hg
    obtain ⟨its, rv, p, _⟩ := sqs_rd I hqx
    obtain ⟨its2, rv2, p2, _⟩ := sqs_rd I hqy
    have l1 := rv.length
    have l2 := rv2.length
    have hh : X.A.in1.handled = none := I.ok.hd hc
    exact wpAny_pyNext_zipD2_end (zsep D n1 n2) (D1 := draws_s (A := X.A.in1) hh i1 a D.l1i1 its.toArray) (D2 := draws_s (A := X.A.in1) hh i2 b D.l2i2 its2.toArray) hz hTI hTO ⟨h1, p⟩ ⟨h2, p2⟩ (by simp; omega) (by simp; omega) (by simp; omega) fun h' tk hk => ⟨rfl, I.turnedL (t' := tk) (ch := [z, TI, TO, i1, i2]) (fun c o hb q =>
      hk c o (fun q' => hb (by simp [q'])) (fun q' => hb (by simp [q'])) (fun q' => hb (by simp [q'])) (fun q' => hb (by simp [q'])) q) hf⟩
  self := fun A i s Q E st h => wpAny_pyIter_zip st.1 h
def iZipS (K : PySem.W.Frag) (ta : TA) : TI := fun σ H R => ta σ H fun vs H1 => ∃ a b xs ys, vs = [.ref (Src.a a), .ref (Src.a b)] ∧ SqS K H1 a xs ∧ SqS K H1 b ys ∧ R (ItzS K a b) H1
theorem pi_zipS {X : Cx} {e e2 : Expr} {ta : TA} {p pos tpos : Pos} {elts : List Expr} {kk : Nat} (hg : Gl X "zip") (hm : X.mg "zip" = none) (ha : PA X [e, e2] ta)
    (hs : starEach [e, e2] X.env = (false, eval e X.env) :: starEach [e2] X.env := by rfl) (hpl : (backTo pos (starEach [e2] X.env)).any (·.1) = false := by rfl) :
    PI X (.Tuple elts kk tpos) (.Call (.Name "zip" p) [e, e2] [] pos) (iZipS X.K ta) := by
  refine ⟨fun pins s σ H R I h => ?_⟩
  refine Call_ (ld_blt I hg hm PyProof.Rows.boot_zip (PyProof.Rows.callWith_type1 (thn (ha.run pos pins s σ H _ I h) fun us s1 ⟨vs, H1, I1, r1, q1⟩ => ?_) hs hpl))
  obtain ⟨a, b, xs, ys, ex, hqx, hqy, q⟩ := q1
  subst ex
  cases r1 with
  | cons r rr =>
    cases rr with
    | cons r' rr =>
      cases rr
      cases r
      cases r'
      have fresh5 : ∀ c, c ∈ [s1.heap.objs.size + 4, s1.heap.objs.size + 2, s1.heap.objs.size + 3, s1.heap.objs.size, s1.heap.objs.size + 1] → FpOk X pins H1 c := fun c hcm => by
        have e' : c = s1.heap.objs.size + 4 ∨ c = s1.heap.objs.size + 2 ∨ c = s1.heap.objs.size + 3 ∨ c = s1.heap.objs.size ∨ c = s1.heap.objs.size + 1 := by simpa using hcm
        have hle : s1.heap.objs.size ≤ c := by
          rcases e' with z | z | z | z | z
          · rw [z]; exact Nat.le_add_right _ _
          · rw [z]; exact Nat.le_add_right _ _
          · rw [z]; exact Nat.le_add_right _ _
          · rw [z]; exact Nat.le_refl _
          · rw [z]; exact Nat.le_add_right _ _
        exact I1.fpOk hle (I1.hok.fresh hle)
      obtain ⟨its, rv, p1, _⟩ := sqs_rd I1 hqx
      obtain ⟨its2, rv2, p2, _⟩ := sqs_rd I1 hqy
      obtain ⟨o1, ho1, _⟩ := p1.obj
      obtain ⟨o2, ho2, _⟩ := p2.obj
      have la := Heap.lt_size ho1
      have lb := Heap.lt_size ho2
      refine zip_begins2 (begins_s a its.toArray) (begins_s b its2.toArray) p1 p2 fun h' hz hTI hTO h1 h2 hsz hk => wpAny_pyIter_zip hz ?_
      have I2 : Inv X pins σ H1 { s1 with heap := h' } := I1.kept (t' := s1.toks) hk
      exact ⟨s1.heap.objs.size + 4, [s1.heap.objs.size + 4, s1.heap.objs.size + 2, s1.heap.objs.size + 3, s1.heap.objs.size, s1.heap.objs.size + 1], _, _, H1, rfl, I2, turn_zipS (PySem.W.ktu_apart s1.heap.objs.size a.a b.a la lb) (Nat.ne_of_gt (Nat.lt_of_lt_of_le la (Nat.le_add_right _ _))) (Nat.ne_of_gt (Nat.lt_of_lt_of_le lb (Nat.le_add_right _ _))), ⟨hz, hTI, ⟨_, _, hTO⟩, its_new h1, its_new h2⟩, fresh5, q⟩
def zipM (xs ys : List M) : List M := (xs.zip ys).map fun p => M.tup [p.1, p.2]
theorem zipM_len (xs ys : List M) : (zipM xs ys).length = min xs.length ys.length := by simp [zipM]
theorem zipM_at {xs ys : List M} {i : Nat} {m : M} (h : (zipM xs ys)[i]? = some m) : ∃ x y, xs[i]? = some x ∧ ys[i]? = some y ∧ m = .tup [x, y] := by
  unfold zipM at h
  rw [List.getElem?_map] at h
  cases q : (xs.zip ys)[i]? with
  | none => rw [q] at h; cases h
  | some p =>
    rw [q] at h
    rw [List.getElem?_zip_eq_some] at q
    exact ⟨p.1, p.2, q.1, q.2, (Option.some.inj h).symm⟩
def zipQ (Q : List M → (MH → Prop) → MH → Prop) (ms : List M) (h : MH) : Prop := ∃ m n xs ys chk chk2, ms = [m, n] ∧ SeqM h m xs chk ∧ SeqM h n ys chk2 ∧ Q (zipM xs ys) (fun h => chk h ∧ chk2 h) h
def wZip (wa : MTA) : MTI := fun sm h Q E => wa sm h (zipQ Q) E
section
variable {X : Cx} {W : WX} {pos p tpos : Pos} {elts : List Expr} {kk : Nat}
theorem i_zip {a b : Expr} {wa : MTA} (hg : Gl X "zip") (hm : X.mg "zip" = none) (ha : AOk X W [a, b] wa)
    (hs : starEach [a, b] X.env = (false, eval a X.env) :: starEach [b] X.env := by rfl) (hpl : (backTo pos (starEach [b] X.env)).any (·.1) = false := by rfl) :
    IOk X W (.Tuple elts kk tpos) (.Call (.Name "zip" p) [a, b] [] pos) (wZip wa) :=
  PI.mono (pi_zipS hg hm ha hs hpl) fun σ H R ⟨f, sm, mh, Q', E, a, q, k⟩ => a.goA q fun f1 mh1 H1 ms vs p x a1 r1 ⟨m, n, xs, ys, chk, chk2, e, hq, hq2, q1⟩ => by
    subst e
    obtain ⟨v, r, rfl, rv, v2, r2, rfl, rv2, rn⟩ := r1
    have e2 : r2 = [] := rn
    subst e2
    obtain ⟨hc, src, e, hsrc⟩ := seq_src a1.h rv hq
    subst e
    obtain ⟨hc2, src2, e, hsrc2⟩ := seq_src a1.h rv2 hq2
    subst e
    obtain ⟨vs, h1, _⟩ := hsrc f1 mh1 H1 (List.prefix_refl _) (Ext.refl _) a1.h hc
    obtain ⟨vs', h1', _⟩ := hsrc2 f1 mh1 H1 (List.prefix_refl _) (Ext.refl _) a1.h hc2
    refine ⟨src, src2, vs, vs', rfl, h1.sqs, h1'.sqs, k _ _ ⟨f1, mh1, _, _, p, x, a1.h, fun f2 mh2 H2 p2 x2 r2 hc3 => ?_, q1⟩⟩
    obtain ⟨vs2, h2, rr⟩ := hsrc f2 mh2 H2 p2 x2 r2 hc3.1
    obtain ⟨vs3, h3, rr3⟩ := hsrc2 f2 mh2 H2 p2 x2 r2 hc3.2
    refine ⟨fun i m hm => ?_, fun i hi => ⟨vs2, vs3, h2.sqs, h3.sqs, ?_⟩⟩
    · obtain ⟨y, y', hy, hy', rfl⟩ := zipM_at hm
      obtain ⟨v, hv, rv⟩ := rr.get hy
      obtain ⟨v', hv', rv'⟩ := rr3.get hy'
      refine ⟨⟨vs2, vs3, v, v', h2.sqs, h3.sqs, hv, hv'⟩, fun z H3 hz => ?_⟩
      obtain ⟨T, x', x'', rfl, hT, rfl, hx, hx'⟩ := hz
      have := hx vs2 h2.sqs
      rw [hv] at this; cases this
      have := hx' vs3 h3.sqs
      rw [hv'] at this; cases this
      have xt : Ext H2 (upd H2 T (.tup [v, v'])) := Ext.new hT
      exact ⟨r2.new hT, xt, T, [v, v'], rfl, .inl (.inl (upd_same)), _, _, rfl, rv.mono (List.prefix_refl _) xt, _, _, rfl, rv'.mono (List.prefix_refl _) xt, rfl⟩
    · rw [zipM_len] at hi
      rw [← rr.length, ← rr3.length]
      omega
end
/-! range with a step -/
def rngC (lo c : Int) (n : Nat) : List M := (List.range n).map fun (i : Nat) => M.int (lo + (i : Int) * c)
theorem rngC_at {lo c : Int} {n i : Nat} {m : M} (h : (rngC lo c n)[i]? = some m) : i < n ∧ m = .int (lo + (i : Int) * c) := by
  have hl := (List.getElem?_eq_some_iff.mp h).1
  have hi : i < n := by simpa [rngC] using hl
  refine ⟨hi, ?_⟩
  have : (rngC lo c n)[i]? = some (.int (lo + (i : Int) * c)) := by simp [rngC, hi]
  rw [this] at h
  exact (Option.some.inj h).symm
def rngQ3 (Q : List M → (MH → Prop) → MH → Prop) (ms : List M) (h : MH) : Prop := ∃ i j c n, ms = [.int i, .int j, .int c] ∧ RgC i j c n ∧ Q (rngC i c n) (fun _ => True) h
def wRng3 (wa : MTA) : MTI := fun sm h Q E => wa sm h (rngQ3 Q) E
section
variable {X : Cx} {W : WX} {pos p : Pos} {tg : Expr}
theorem i_rng3 {a b c : Expr} {wa : MTA} (hg : Gl X "range") (hm : X.mg "range" = none) (ha : AOk X W [a, b, c] wa)
    (hs : starEach [a, b, c] X.env = (false, eval a X.env) :: starEach [b, c] X.env := by rfl) (hpl : (backTo pos (starEach [b, c] X.env)).any (·.1) = false := by rfl) :
    IOk X W tg (.Call (.Name "range" p) [a, b, c] [] pos) (wRng3 wa) :=
  PI.mono (pi_range3 hg hm ha hs hpl) fun σ H R ⟨f, sm, mh, Q', E, a, q, k⟩ => a.goA q fun f1 mh1 H1 ms vs p x a1 r1 ⟨i, j, c, n, e, hc, q2⟩ => by
    subst e
    obtain ⟨v, r, rfl, rv, v2, r2, rfl, rv2, v3, r3, rfl, rv3, rn⟩ := r1
    have e1 : v = .int i := rv
    have e2 : v2 = .int j := rv2
    have e3 : v3 = .int c := rv3
    have e4 : r3 = [] := rn
    subst e1 e2 e3 e4
    refine ⟨i, j, c, n, rfl, hc, k _ _ ⟨f1, mh1, _, _, p, x, a1.h, fun f2 mh2 H2 p2 x2 r2 _ => ?_, q2⟩⟩
    refine ⟨fun k m hm => ?_, fun k hk => (show n ≤ k from Nat.le_of_eq (by simpa [rngC] using hk))⟩
    obtain ⟨hi, rfl⟩ := rngC_at hm
    refine ⟨hi, ?_⟩
    rintro y H3 ⟨rfl, rfl⟩
    exact ⟨r2, Ext.refl _, rfl⟩
end
end Mn
end
section
set_option maxHeartbeats 2000000
namespace Mn
open PySem PySem.Spec PyProof.Rows L2
open LamX (TabB LamS lamCx lamEnv)

/-! ### helpers for printed texts -/
section
variable {P : Program} {w : World} {K : PySem.W.Frag} {mg : Str → Option Value} {base : Heap} {k : Nat} {x : Str} {params : Arguments} {body : List Stmt} {scope : Scope} {N ps : List Str} {wb : MTS}
/-- as fnm_of, the code object told by the def's name -/
theorem fnm_at {dvs : List V} {kws : List (Str × V)} {fd : FuncData} (F : FunD K x x params body scope dvs kws (He.ga K x) fd) (S : FnScope N ps scope) (sm : ∃ o, K.lookup sysModules = some o)
    (hbody : ∀ (A : Around) (outer : List Env) (s : Shared) (H : Hp) (E : XK), CM (cxM P w K mg base N x scope (He.ga K x) (.ref (He.codeOf K (x, none))) A outer s H E) (fun cls d _ H => E cls d H) k →
      SsOk (cxM P w K mg base N x scope (He.ga K x) (.ref (He.codeOf K (x, none))) A outer s H E) (fun cls d _ H => E cls d H) body wb) :
    FnM P w K mg base (k + 1) (He.ga K x) fd ps (runM N ps.length wb) where
  len := fun ms h Q E q => q.1
  run := fun A outer s H args us vs Q E hr e0 hb r h => by
    obtain ⟨oc, od, dV, kV, doc, pm, an, cdv, ct, osl, rfl, lk, hcd, _, _⟩ := F.ex
    obtain ⟨c, rfl⟩ := He.codeIn_ref hcd
    have ec : He.codeOf K (x, none) = c := He.codeOf_eq (p := (x, none)) lk rfl
    subst ec
    have hl : vs.length = ps.length := liftSp.len (fun _ _ _ _ q => q.1) h
    refine LamX.run_ofS (k := k) lk hcd S hr.r e0 hb r hl fun hr' => ?_
    obtain ⟨fa, mh, ms, Q', E', h1, h2, ⟨_, h3⟩, h4, h5⟩ := h
    refine ⟨_, hbody A outer s H E (cm_of sm S.nd (hr.deeper _)), fa, startM N ms, mh, { nx := fun _ h => Q' .non h, rt := Q', bk := fun _ _ => False, ct := fun _ _ => False, xc := fun e _ h => E' e h }, ⟨h1, start_rel h2, ?_, fun v H' q => h4 v H' q, ?_, ?_, ?_⟩, h3⟩
    · rintro σ' H' ⟨f', mh', sm', p, x, r', s', q⟩
      exact h4 _ _ ⟨f', mh', .non, p, x, r', rfl, q⟩
    · rintro σ' H' ⟨f', mh', sm', p, x, r', s', q⟩; exact q.elim
    · rintro σ' H' ⟨f', mh', sm', p, x, r', s', q⟩; exact q.elim
    · rintro cls d σ' H' ⟨f', mh', sm', C, ks, ms, us, dx, p, x, r', s', e1, e2, e3, l, rv, q⟩
      exact h5 _ _ _ ⟨f', mh', C, ks, ms, us, dx, p, x, r', e1, e2, e3, l, rv, q⟩
end
theorem cm_lam {X : Cx} {W : WX} {j k : Nat} (c : CM X W j) {A : Around} {outer : List Env} {s : Shared} {H : Hp} {E : XK} {scope : Scope} {f c' : Addr} (hr : RoomG k (A.deeper (lamEnv X scope s.heap.objs.size f c'))) :
    CM (lamCx X A outer s H E scope f c') (fun cls d _ H => E cls d H) k where
  calm := rfl
  tk := takes_of rfl rfl rfl rfl
  po := passes_of (E₁ := fun e' s'' => L2.CX X.prog X.w outer H s E e' s'') rfl
  rm := hr
  sm := c.sm
  nd := c.nd
theorem cm_told {X : Cx} {Ng : List Str} {x : Str} {sg : Scope} {g : Addr} {cdg : Value} {s : Shared} {H : Hp} {k : Nat} (sm : ∃ o, X.K.lookup sysModules = some o) (nd : Ng.Nodup) (hr : RoomG k (toldCx X Ng x sg g cdg s H).A) : CM (toldCx X Ng x sg g cdg s H).nox W0 k where
  calm := rfl
  tk := LamX.takes0
  po := .never
  rm := hr
  sm := sm
  nd := nd
section
variable {X : Cx} {W : WX} {k : Nat}
theorem m_told {sp : TSp} {x a : Str} {g c P : Addr} {pg : Arguments} {bg : List Stmt} {sg : Scope} {fd : FuncData} {Ng : List Str}
    {params : Arguments} {body : Expr} {scope : Scope} {w : MTE} {p lpos pos : Pos} (cm : CM X W (k + 2)) (hg : Gl X x) (hm : X.mg x = some (.ref g)) (D : FunD X.K x x pg bg sg [] [] g fd)
    (hb : ∀ (kV doc pm : Value) (an : Option Addr) (cdv ct : Value) (us : List Value), us.length = [a].length → bindArgs (PySem.W.fnOf x x pg bg sg .none kV doc pm an cdv ct) ⟨us, []⟩ = pure ([a].zip us)) (Sg : FnScope Ng [a] sg) (hNg : Ng[0]? = some a) (hva : Vis sg a)
    (hG : ∀ cdv, ToldM X Ng x sg g cdv bg a (k + 1) sp)
    (TB : TabB X.base X.mg c P) (hcode : X.env.code = .ref c) (L : LamS X.env.scope scope) (hdef : defaultsOf params X.env = ([], []))
    (hbind : ∀ (q : Str) (cl : List (Str × Addr)) (pm cv ctv : Value), bindArgs (PySem.W.kla_fn "<lambda>" q params body scope cl pm cv ctv) ⟨[], []⟩ = pure [])
    (hbody : ∀ (A : Around) (outer : List Env) (s : Shared) (H : Hp) (E : XK) (f c' : Addr), CM (lamCx X A outer s H E scope f c') (fun cls d _ H => E cls d H) k → EOk (lamCx X A outer s H E scope f c') (fun cls d _ H => E cls d H) body w)
    (hdb : (x == ("__debug__" : Str)) = false := by decide) (hd : (a == ("__debug__" : Str)) = false := by decide) (hcd : (a == ("__classdict__" : Str)) = false := by decide) :
    EOk X W (.Call (.Name x p) [.Lambda params body scope lpos] [] pos) (wLam P (X.env.qual ++ "<lambda>") sp w) := by
  have B := D.bindsN hb
  obtain ⟨oc, od, dV, kV, doc, pm, an, cdv, ct, osl, rfl, lk, hcdv, _, _⟩ := D.ex
  exact m_lamcall cm hg hm D.kp lk hcdv B Sg hNg hva (hG cdv) TB hcode L hdef hbind (fun A outer s H E f c' hr => hbody A outer s H E f c' (cm_lam cm hr)) hdb hd hcd
end
abbrev qLam (f : Str) : Str := f ++ ".<locals>." ++ "<lambda>"
def xt0 : Str → M → Option Bool := fun _ _ => none
theorem xt0_ok {K : PySem.W.Frag} : XtOk K xt0 := fun _ _ _ h => nomatch h
/-! ### more rules -/
def mAddI : MR2 := mI (fun _ _ => True) fun i j => .int (i + j)
def mMulI : MR2 := mI BitsOk fun i j => .int (i * j)
theorem l_addI {X : Cx} : L2R X.K (rI0 fun i j => .int (i + j)) mAddI := l_I0 fun _ _ _ _ => rfl
theorem l_mulI {X : Cx} : L2R X.K (rI CMulX fun i j => .int (i * j)) mMulI := l_I (fun _ _ h => h) fun _ _ _ _ => rfl
def wXf (cs : List Str) (n : Str) (we : MTE) : MTE := fun sm h Q E => we sm h (fun x h1 => ∃ C ks ms m, x = .exc C ks ms ∧ C ∈ cs ∧ fldOf ks ms n = some m ∧ Q m h1) E
def wNotE (w : MTE) : MTE := fun sm h Q E => w sm h (fun x h1 => ∃ c, x = .bl c ∧ Q (.bl (!c)) h1) E
def wPar3 (i j l : Nat) (wa : MTA) : MTS := fun D sm h => wa sm h (fun ms h1 => ∃ u v w, ms = [u, v, w] ∧ D.nx (((sm.set i (some u)).set j (some v)).set l (some w)) h1) (fun e h1 => D.xc e sm h1)
section
variable {X : Cx} {W : WX} {a b c : Expr} {wa : MTA} {ta : MTT} {pos : Pos}
theorem s_par3 {i j l : Nat} {x y z : Str} {px py pz pt : Pos} {kt k2 pt2} (hc : X.calm = true) (hN : X.N.Nodup) (hi : X.N[i]? = some x) (hj : X.N[j]? = some y) (hl : X.N[l]? = some z) (hij : i ≠ j) (hil : i ≠ l) (hjl : j ≠ l)
    (hx : X.env.scope.names.lookup x = some .local) (hy : X.env.scope.names.lookup y = some .local) (hz : X.env.scope.names.lookup z = some .local) (ha : AOk X W [a, b, c] wa)
    (hw : swappedStores [.Tuple [.Name x px, .Name y py, .Name z pz] kt pt] (.Tuple [a, b, c] k2 pt2) X.env = pure (some [x, y, z]) := by rfl)
    (hs : swapsWithSole [.Tuple [.Name x px, .Name y py, .Name z pz] kt pt] (.Tuple [a, b, c] k2 pt2) pos.line X.env = pure false := by rfl) :
    SOk X W (.Assign [.Tuple [.Name x px, .Name y py, .Name z pz] kt pt] (.Tuple [a, b, c] k2 pt2) pos) (wPar3 i j l wa) :=
  PS.mono (ps_par3 hc hN hi hj hl hij hil hjl hx hy hz ha hw hs) fun D σ H ⟨f, sm, mh, D', a, q⟩ => a.at.goA q fun f1 mh1 H1 ms vs p x a1 r1 ⟨u, v, w, e, q1⟩ => by
    subst e
    obtain ⟨u1, r, rfl, ru, v1, r', rfl, rv, w1, r'', rfl, rw', e'⟩ := r1
    have : r'' = [] := e'
    subst this
    exact ⟨u1, v1, w1, rfl, a.nx _ _ ⟨f1, mh1, _, p, x, a1.h, ((a1.s.set ru).set rv).set rw', q1⟩⟩
end
/-- a def with defaults, all of them given -/
theorem kd_full {K : PySem.W.Frag} {x qual : Str} {params : Arguments} {body : List Stmt} {scope : Scope} {dvs : List V} {f : Addr} {fd : FuncData} {ps : List Str} (F : FunD K x qual params body scope dvs [] f fd)
    (h : ∀ (dV kV doc pm : Value) (an : Option Addr) (cdv ct : Value) (us : List Value), us.length = ps.length → bindArgs (PySem.W.fnOf x qual params body scope dV kV doc pm an cdv ct) ⟨us, []⟩ = pure (ps.zip us)) : L2.Binds K fd ps [] := by
  obtain ⟨oc, od, dV, kV, doc, pm, an, cdv, ct, osl, rfl, lk, hcd, hd, _⟩ := F.ex
  exact Binds.all fun us hl => h _ _ _ _ _ _ _ us hl
/-! o[i] op= e, named -/
def wAugS (wo wi we : MTE) (m : MR2) : MTS := fun D sm h => wo sm h (fun o h1 => wi sm h1 (fun i h2 => ∃ n xs k j x, o = .ref n ∧ i = .int k ∧ h2[n]? = some (.lst xs) ∧ ixN xs.length k = some j ∧ xs[j]? = some x ∧
  we sm h2 (fun y h3 => m x y h3 fun z h4 => ∃ ys, h4[n]? = some (.lst ys) ∧ ixN ys.length k = some j ∧ D.nx sm (h4.set n (.lst (ys.set j z)))) (fun e h => D.xc e sm h)) (fun e h => D.xc e sm h)) (fun e h => D.xc e sm h)
section
variable {X : Cx} {W : WX} {o i e : Expr} {wo wi we : MTE} {tpos pos : Pos}
theorem s_augS {op : Operator} {r : R2} {m : MR2} (ho : EOk X W o wo) (hi : EOk X W i wi) (he : EOk X W e we) (hp : OpR X (inplaceOp op) r) (l : L2R X.K r m)
    (ha : ∀ ov iv new, augStore i ov iv new = (do holding [new, ov, iv] (setItem ov iv new); release [new, ov, iv] []; pure .next) := by intros; rfl) :
    SOk X W (.AugAssign (.Subscript o i tpos) op e pos) (wAugS wo wi we m) := s_augSub ho hi he hp l ha
end
end Mn
end
section
set_option maxHeartbeats 2000000
namespace Mn
open PySem PySem.Spec PyProof.Rows L2

/-! ### loops by invariants -/
theorem loop_inv {chk : MH → Prop} {g : MTG} {wb : MTS} {D : MD} (items : List M) (I : Nat → MS → MH → Prop) {sm : MS} {h : MH} (h0 : I 0 sm h)
    (step : ∀ i m sm h, items[i]? = some m → I i sm h → chk h ∧ ∀ nx' : MS → MH → Prop, (∀ sm h, I (i + 1) sm h → nx' sm h) → g m sm h fun sm1 h1 => wb { D with nx := nx', ct := nx', bk := D.nx } sm1 h1)
    (fin : ∀ sm h, I items.length sm h → chk h ∧ D.nx sm h) : wLoop chk g wb items D sm h := by
  have key : ∀ (n i : Nat) (sm : MS) (h : MH), items.length - i = n → i ≤ items.length → I i sm h → wLoop chk g wb (items.drop i) D sm h := by
    intro n
    induction n with
    | zero =>
      intro i sm h hn hi hI
      have e : i = items.length := by omega
      subst e
      rw [List.drop_length]
      exact fin sm h hI
    | succ n ih =>
      intro i sm h hn hi hI
      have hlt : i < items.length := by omega
      rw [List.drop_eq_getElem_cons hlt]
      obtain ⟨a, b⟩ := step i items[i] sm h (by simp) hI
      exact ⟨a, b _ fun sm h hI' => ih (i + 1) sm h (by omega) hlt hI'⟩
  simpa using key items.length 0 sm h (by omega) (Nat.zero_le _) h0
theorem cloop_inv {chk : MH → Prop} {g : MTG} {wt : MTT} {we : MTE} {sm : MS} {D : Nat} {Q : List M → MH → Prop} (items : List M) (I : Nat → List M → MH → Prop) {h : MH} (h0 : I 0 [] h)
    (step : ∀ i m acc h, items[i]? = some m → I i acc h → chk h ∧ ∀ nx' : List M → MH → Prop, (∀ acc h, I (i + 1) acc h → nx' acc h) → g m sm h fun sm2 h2 => wt sm2 h2 (fun b h3 =>
      if b = true then we sm2 h3 (fun y h4 => h4[D]? = some (.lst acc) ∧ acc.length < SZ ∧ nx' (acc ++ [y]) (h4.set D (.lst (acc ++ [y])))) FK else nx' acc h3) FK)
    (fin : ∀ acc h, I items.length acc h → chk h ∧ h[D]? = some (.lst acc) ∧ Q acc h) : cLoop chk g wt we sm D Q items [] h := by
  have key : ∀ (n i : Nat) (acc : List M) (h : MH), items.length - i = n → i ≤ items.length → I i acc h → cLoop chk g wt we sm D Q (items.drop i) acc h := by
    intro n
    induction n with
    | zero =>
      intro i acc h hn hi hI
      have e : i = items.length := by omega
      subst e
      rw [List.drop_length]
      exact fin acc h hI
    | succ n ih =>
      intro i acc h hn hi hI
      have hlt : i < items.length := by omega
      rw [List.drop_eq_getElem_cons hlt]
      obtain ⟨a, b⟩ := step i items[i] acc h (by simp) hI
      refine ⟨a, ?_⟩
      exact b _ fun acc h hI' => ih (i + 1) acc h (by omega) hlt hI'
  simpa using key items.length 0 [] h (by omega) (Nat.zero_le _) h0

/-! ### data -/
theorem pd_mono {h : MH} {r : MH} : ∀ (n : Nat) (m : M) (d : PyData), pd h n m = some d → pd (h ++ r) n m = some d := by
  intro n
  have all : ∀ (n : Nat), (∀ (m : M) (d : PyData), pd h n m = some d → pd (h ++ r) n m = some d) → ∀ (xs : List M) (ds : List PyData), pdL (pd h n) xs = some ds → pdL (pd (h ++ r) n) xs = some ds := by
    intro n ih xs
    induction xs with
    | nil => intro ds e; exact e
    | cons x xs ihx =>
      intro ds e
      obtain ⟨d, rd, rfl, h1, h2⟩ := pdL_cons e
      unfold pdL
      rw [ih x d h1, ihx rd h2]
  induction n with
  | zero => intro m d e; cases m <;> exact e
  | succ n ih =>
    intro m d e
    cases m with
    | tup xs =>
      have e : (pdL (pd h n) xs).map PyData.tuple = some d := e
      obtain ⟨ds, h1, rfl⟩ := Option.map_eq_some_iff.mp e
      show (pdL (pd (h ++ r) n) xs).map PyData.tuple = _
      rw [all n ih xs ds h1]; rfl
    | ref k =>
      have e : (match h[k]? with | some (.lst xs) => (pdL (pd h n) xs).map PyData.list | some (.dct []) => some (.dict []) | _ => none) = some d := e
      show (match (h ++ r)[k]? with | some (.lst xs) => (pdL (pd (h ++ r) n) xs).map PyData.list | some (.dct []) => some (.dict []) | _ => none) = some d
      cases q : h[k]? with
      | none => rw [q] at e; cases e
      | some o =>
        have hk : k < h.length := (List.getElem?_eq_some_iff.mp q).1
        rw [List.getElem?_append_left hk, q]
        rw [q] at e
        cases o with
        | lst xs =>
          obtain ⟨ds, h1, rfl⟩ := Option.map_eq_some_iff.mp e
          show (pdL (pd (h ++ r) n) xs).map PyData.list = _
          rw [all n ih xs ds h1]; rfl
        | dct kvs => cases kvs <;> exact e
        | _ => cases e
    | _ => exact e
theorem pdL_rep {g : M → Option PyData} {m : M} {d : PyData} (e : g m = some d) : ∀ n : Nat, pdL g (List.replicate n m) = some (List.replicate n d)
  | 0 => rfl
  | n + 1 => by
    rw [List.replicate_succ, List.replicate_succ]
    unfold pdL
    rw [e, pdL_rep e n]
end Mn
end
section
set_option maxHeartbeats 2000000
namespace Mn
open PySem PySem.Spec PyProof.Rows L2

/-! ### equations for the small world's runs -/
theorem mIx_eq {x : M} {i : Int} {h : MH} {Q : KM} : mIx x (.int i) h Q ↔ ∃ xs v, itemsM h x = some xs ∧ atI xs i = some v ∧ Q v h := by
  unfold mIx
  constructor
  · rintro ⟨xs, i', v, a, b, c, d⟩
    cases b
    exact ⟨xs, v, a, c, d⟩
  · rintro ⟨xs, v, a, c, d⟩
    exact ⟨xs, i, v, a, rfl, c, d⟩
theorem items_lst {h : MH} {n : Nat} {xs : List M} (e : h[n]? = some (.lst xs)) : itemsM h (.ref n) = some xs := by
  show (match h[n]? with | some (.lst xs) => some xs | some (.rol xs) => some xs | _ => none) = some xs
  rw [e]
theorem items_rol {h : MH} {n : Nat} {xs : List M} (e : h[n]? = some (.rol xs)) : itemsM h (.ref n) = some xs := by
  show (match h[n]? with | some (.lst xs) => some xs | some (.rol xs) => some xs | _ => none) = some xs
  rw [e]
theorem items_tup {h : MH} {xs : List M} : itemsM h (.tup xs) = some xs := rfl
theorem atI_nn {α : Type} {xs : List α} {i : Int} (h0 : 0 ≤ i) (h1 : i < xs.length) : atI xs i = xs[i.toNat]? := by
  unfold atI ixN
  rw [if_pos h0, if_pos h1]; rfl
theorem atI_neg1 {α : Type} {xs : List α} (h1 : xs ≠ []) : atI xs (-1) = xs.getLast? := by
  have h : 0 < xs.length := List.length_pos_iff.mpr h1
  unfold atI ixN
  rw [if_neg (by omega), if_pos (by omega), List.getLast?_eq_getElem?]
  have : ((-1 : Int) + xs.length).toNat = xs.length - 1 := by omega
  simp [this]
theorem ix_go {x : M} {i : Int} {h : MH} {Q : KM} {xs : List M} {v : M} (a : itemsM h x = some xs) (b : atI xs i = some v) (q : Q v h) : mIx x (.int i) h Q := ⟨xs, i, v, a, rfl, b, q⟩
theorem len_go {m : M} {xs : List M} {h : MH} {Q : KM} (a : itemsM h m = some xs) (q : Q (.int xs.length) h) : fLen [m] h Q := by
  refine ⟨m, xs.length, rfl, ?_, q⟩
  cases m with
  | tup ys => exact congrArg (fun z : Option (List M) => z.map (·.length)) a
  | ref n => show (itemsM h (.ref n)).map _ = _; rw [a]; rfl
  | _ => cases a
theorem pow_small {i j : Int} {h : MH} {Q : KM} (h0 : 0 ≤ j) (h1 : (Builtin.Int.intBits i : Int) * j ≤ 2 ^ 27) (q : Q (.int (i ^ j.toNat)) h) : mPow (.int i) (.int j) h Q := ⟨⟨h0, h1⟩, q⟩
theorem bits_le {i : Int} {n : Nat} (h : i.natAbs < 2 ^ n) : Builtin.Int.intBits i ≤ n := by
  unfold Builtin.Int.intBits
  split
  · exact Nat.zero_le _
  · rename_i hi
    have : i.natAbs ≠ 0 := by
      intro z
      exact hi (by simp [Int.natAbs_eq_zero.mp z])
    exact Nat.succ_le_of_lt ((Nat.log2_lt this).mpr h)
end Mn
end
section
set_option maxHeartbeats 2000000
namespace Mn
open PySem PySem.Spec PyProof.Rows L2

/-! ### texts are short -/
def Sh (d : PyData) (B : Nat) : Prop := d.showable = true ∧ d.shown.length ≤ B
theorem Sh.rep {d : PyData} {B : Nat} (h : Sh d B) (hB : B ≤ 16777216) : RepOk d := ⟨h.1, Nat.le_trans h.2 hB⟩
theorem Sh.le {d : PyData} {B C : Nat} (h : Sh d B) (hB : B ≤ C) : Sh d C := ⟨h.1, Nat.le_trans h.2 hB⟩
theorem sh_non : Sh .none 4 := ⟨by simp only [PyData.showable], by simp only [PyData.shown]; decide⟩
theorem sh_bl (b : Bool) : Sh (.bool b) 5 := ⟨by simp only [PyData.showable], by simp only [PyData.shown]; cases b <;> decide⟩
theorem sh_int {a : Int} {k : Nat} (h : a.natAbs < 2 ^ k) (hk : k ≤ 1920) (h0 : 0 < k := by decide) : Sh (.int a) (k + 1) := by
  have hl : a.natAbs.log2 < k := by
    by_cases z : a.natAbs = 0
    · rw [z]; exact h0
    · exact (Nat.log2_lt z).mpr h
  refine ⟨?_, ?_⟩
  · simp only [PyData.showable]; exact decide_eq_true (by omega)
  · simp only [PyData.shown]
    have := int_text_length_le h0 hl
    rw [PySem.ofString_length]
    exact this
theorem shownAll_len : ∀ ds : List PyData, (PyData.shownAll ds).length = ds.length
  | [] => by simp only [PyData.shownAll, List.length_nil]
  | d :: ds => by simp only [PyData.shownAll, List.length_cons, shownAll_len ds]
theorem shownAll_piled {B : Nat} : ∀ ds : List PyData, (∀ d ∈ ds, Sh d B) → PyData.showableAll ds = true ∧ piled (PyData.shownAll ds) ≤ ds.length * (B + 2)
  | [], _ => ⟨by simp only [PyData.showableAll], by simp only [PyData.shownAll]; exact Nat.zero_le _⟩
  | d :: ds, h => by
    obtain ⟨a, b⟩ := shownAll_piled ds fun x hx => h x (List.mem_cons_of_mem _ hx)
    have hd := h d List.mem_cons_self
    refine ⟨by simp only [PyData.showableAll, a, hd.1, Bool.and_self], ?_⟩
    simp only [PyData.shownAll]
    rw [piled_cons, List.length_cons, Nat.add_mul]
    have := hd.2
    omega
theorem textFrom0 (ts : List Str) : (textFrom 0 "[" ts).length ≤ 1 + piled ts := by
  cases ts with
  | nil => show (1 : Nat) ≤ _; omega
  | cons t r =>
    show (textFrom 1 _ r).length ≤ _
    rw [textFrom_length_pos r 1 _ (by decide), strLen_append, strLen_append, piled_cons]
    have e1 : (("[" : String) : Str).length = 1 := rfl
    have e2 : ((if 0 > 0 then ", " else "" : String) : Str).length = 0 := rfl
    omega
theorem sh_list {ds : List PyData} {B : Nat} (n : Nat) (h : ∀ d ∈ ds, Sh d B) (hn : ds.length ≤ n) : Sh (.list ds) (n * (B + 2) + 2) := by
  obtain ⟨a, b⟩ := shownAll_piled ds h
  refine ⟨by simp only [PyData.showable]; exact a, ?_⟩
  simp only [PyData.shown, listText]
  rw [strLen_append]
  have := textFrom0 (PyData.shownAll ds)
  have e : (("]" : String) : Str).length = 1 := rfl
  have := Nat.mul_le_mul_right (B + 2) hn
  omega
theorem sh_tup {ds : List PyData} {B : Nat} (n : Nat) (h : ∀ d ∈ ds, Sh d B) (hn : ds.length ≤ n) : Sh (.tuple ds) (n * (B + 2) + 3) := by
  obtain ⟨a, b⟩ := shownAll_piled ds h
  refine ⟨by simp only [PyData.showable]; exact a, ?_⟩
  simp only [PyData.shown, tupleText]
  rw [strLen_append, strLen_append]
  have e1 : (("(" : String) : Str).length = 1 := rfl
  have e3 : (((if (PyData.shownAll ds).length == 1 then ",)" else ")" : String) : Str)).length ≤ 2 := by split <;> decide
  have := Nat.mul_le_mul_right (B + 2) hn
  by_cases z : PyData.shownAll ds = []
  · rw [z] at e3 ⊢
    have : (Str.join ", " ([] : List Str)).length = 0 := rfl
    omega
  · have := join_length_add _ z
    omega
theorem sh_rep {d : PyData} {B : Nat} (n : Nat) {k : Nat} (h : Sh d B) (hn : k ≤ n) : Sh (.list (List.replicate k d)) (n * (B + 2) + 2) :=
  sh_list n (fun x hx => by rw [(List.mem_replicate.mp hx).2]; exact h) (by rw [List.length_replicate]; exact hn)
end Mn
end
section
set_option maxHeartbeats 1000000
namespace Vn
open PySem PySem.Spec PyProof.Rows L2 Mn

/-! ### values without a heap -/
inductive PV where
  | non
  | bl (b : Bool)
  | int (i : Int)
  | str (s : Str)
  | tup (xs : List PV)
  | lst (xs : List PV)
  | rol (xs : List PV)
  | dct (ks : List (PV × PV))
  | glo (x : Str)
  | exc (C : Str) (ks : List Str) (vs : List PV)
  | ty (n : String)
  /-- any value of the small world that stands on no object -/
  | opq (m : M)
abbrev VS := List (Option PV)
inductive ER (α : Type) where
  | ok (a : α) (s : VS)
  | xc (e : PV) (s : VS)
  | bad
def ER.bind {α β : Type} (r : ER α) (f : α → VS → ER β) : ER β := match r with
  | .ok a s => f a s
  | .xc e s => .xc e s
  | .bad => .bad
theorem bind_ok {α β : Type} (a : α) (s : VS) (f : α → VS → ER β) : (ER.ok a s).bind f = f a s := eq_of_heq HEq.rfl
theorem bind_xc {α β : Type} (e : PV) (s : VS) (f : α → VS → ER β) : (ER.xc e s : ER α).bind f = .xc e s := eq_of_heq HEq.rfl
def opt {α : Type} (o : Option α) (s : VS) : ER α := match o with
  | some a => .ok a s
  | none => .bad
theorem opt_some {α : Type} (a : α) (s : VS) : opt (some a) s = .ok a s := eq_of_heq HEq.rfl
inductive SR where
  | nx (s : VS)
  | rt (v : PV) (s : VS)
  | br (s : VS)
  | ct (s : VS)
  | xc (e : PV) (s : VS)
  | bad
inductive FR where
  | ok (v : PV) (o : List PV)
  | xc (e : PV) (o : List PV)
  | bad
abbrev VE := VS → ER PV
abbrev VA := VS → ER (List PV)
abbrev VT := VS → ER Bool
abbrev VSt := VS → SR
abbrev VF := List PV → FR

/-! ### how they stand for the small world's -/
/-- what stays below: a heap, and the places that a told deed's value may stand on -/
structure Bs where
  b : MH
  A : Nat → Prop
mutual
def Rp (A : Nat → Prop) (h : MH) : PV → M → Prop
  | .non, m => m = .non
  | .bl b, m => m = .bl b
  | .int i, m => m = .int i
  | .str s, m => m = .str s
  | .tup xs, m => ∃ ms, m = .tup ms ∧ Rps A h xs ms
  | .lst xs, m => ∃ n ms, m = .ref n ∧ A n ∧ h[n]? = some (.lst ms) ∧ Rps A h xs ms
  | .rol xs, m => ∃ n ms, m = .ref n ∧ A n ∧ h[n]? = some (.rol ms) ∧ Rps A h xs ms
  | .dct ks, m => ∃ n ms, m = .ref n ∧ A n ∧ h[n]? = some (.dct ms) ∧ Rpk A h ks ms
  | .glo x, m => m = .glo x
  | .exc C ks vs, m => ∃ ms, m = .exc C ks ms ∧ Rps A h vs ms
  | .ty n, m => m = .ty n
  | .opq a, m => m = a
def Rps (A : Nat → Prop) (h : MH) : List PV → List M → Prop
  | [], ms => ms = []
  | x :: xs, ms => ∃ m r, ms = m :: r ∧ Rp A h x m ∧ Rps A h xs r
def Rpk (A : Nat → Prop) (h : MH) : List (PV × PV) → List (M × M) → Prop
  | [], ms => ms = []
  | (k, v) :: r, ms => ∃ a b l, ms = (a, b) :: l ∧ Rp A h k a ∧ Rp A h v b ∧ Rpk A h r l
end
section
variable {A A' : Nat → Prop} {h h' : MH}
mutual
theorem Rp.mono (f : ∀ n o, A n → h[n]? = some o → A' n ∧ h'[n]? = some o) : ∀ {x : PV} {m : M}, Rp A h x m → Rp A' h' x m
  | .non, _, r => r
  | .bl _, _, r => r
  | .int _, _, r => r
  | .str _, _, r => r
  | .tup _, _, ⟨ms, e, r⟩ => ⟨ms, e, Rps.mono f r⟩
  | .lst _, _, ⟨n, ms, e, a, g, r⟩ => ⟨n, ms, e, (f n _ a g).1, (f n _ a g).2, Rps.mono f r⟩
  | .rol _, _, ⟨n, ms, e, a, g, r⟩ => ⟨n, ms, e, (f n _ a g).1, (f n _ a g).2, Rps.mono f r⟩
  | .dct _, _, ⟨n, ms, e, a, g, r⟩ => ⟨n, ms, e, (f n _ a g).1, (f n _ a g).2, Rpk.mono f r⟩
  | .glo _, _, r => r
  | .exc _ _ _, _, ⟨ms, e, r⟩ => ⟨ms, e, Rps.mono f r⟩
  | .ty _, _, r => r
  | .opq _, _, r => r
theorem Rps.mono (f : ∀ n o, A n → h[n]? = some o → A' n ∧ h'[n]? = some o) : ∀ {xs : List PV} {ms : List M}, Rps A h xs ms → Rps A' h' xs ms
  | [], _, r => r
  | _ :: _, _, ⟨m, t, e, a, b⟩ => ⟨m, t, e, Rp.mono f a, Rps.mono f b⟩
theorem Rpk.mono (f : ∀ n o, A n → h[n]? = some o → A' n ∧ h'[n]? = some o) : ∀ {xs : List (PV × PV)} {ms : List (M × M)}, Rpk A h xs ms → Rpk A' h' xs ms
  | [], _, r => r
  | (_, _) :: _, _, ⟨a, b, l, e, p, q, r⟩ => ⟨a, b, l, e, Rp.mono f p, Rp.mono f q, Rpk.mono f r⟩
end
theorem Rps.length : ∀ {xs : List PV} {ms : List M}, Rps A h xs ms → xs.length = ms.length
  | [], _, r => by cases r; rfl
  | _ :: _, _, ⟨m, t, e, a, b⟩ => by subst e; simp [Rps.length b]
theorem Rps.get : ∀ {xs : List PV} {ms : List M} {i : Nat} {x : PV}, Rps A h xs ms → xs[i]? = some x → ∃ m, ms[i]? = some m ∧ Rp A h x m
  | [], _, _, _, _, e => by simp at e
  | _ :: _, _, 0, _, ⟨v, r, e, a, _⟩, e2 => by subst e; simp at e2; subst e2; exact ⟨v, rfl, a⟩
  | _ :: _, _, i + 1, _, ⟨v, r, e, _, t⟩, e2 => by
    subst e
    obtain ⟨u, h1, h2⟩ := Rps.get (i := i) t (by simpa using e2)
    exact ⟨u, by simpa using h1, h2⟩
theorem Rps.append : ∀ {xs ys : List PV} {ms ns : List M}, Rps A h xs ms → Rps A h ys ns → Rps A h (xs ++ ys) (ms ++ ns)
  | [], _, _, _, r, t => by cases r; exact t
  | _ :: _, _, _, _, ⟨v, r, e, a, q⟩, t => by subst e; exact ⟨v, _, rfl, a, Rps.append q t⟩
theorem Rps.one {x : PV} {m : M} (r : Rp A h x m) : Rps A h [x] [m] := ⟨m, [], rfl, r, rfl⟩
theorem Rps.take : ∀ {xs : List PV} {ms : List M} (n : Nat), Rps A h xs ms → Rps A h (xs.take n) (ms.take n)
  | [], _, n, r => by cases r; simp [Rps]
  | _ :: _, _, 0, r => by simp [Rps]
  | _ :: _, _, n + 1, ⟨v, r, e, a, t⟩ => by subst e; exact ⟨v, _, rfl, a, Rps.take n t⟩
theorem Rps.drop : ∀ {xs : List PV} {ms : List M} (n : Nat), Rps A h xs ms → Rps A h (xs.drop n) (ms.drop n)
  | [], _, n, r => by cases r; simp [Rps]
  | _ :: _, _, 0, r => r
  | _ :: _, _, n + 1, ⟨v, r, e, a, t⟩ => by subst e; exact Rps.drop n t
theorem Rps.set : ∀ {xs : List PV} {ms : List M} (n : Nat) {x : PV} {m : M}, Rps A h xs ms → Rp A h x m → Rps A h (xs.set n x) (ms.set n m)
  | [], _, n, _, _, r, _ => by cases r; simp [Rps]
  | _ :: _, _, 0, _, _, ⟨v, r, e, a, t⟩, q => by subst e; exact ⟨_, _, rfl, q, t⟩
  | _ :: _, _, n + 1, _, _, ⟨v, r, e, a, t⟩, q => by subst e; exact ⟨v, _, rfl, a, Rps.set n t q⟩
theorem Rps.reverse : ∀ {xs : List PV} {ms : List M}, Rps A h xs ms → Rps A h xs.reverse ms.reverse
  | [], _, r => by cases r; simp [Rps]
  | _ :: _, _, ⟨v, r, e, a, t⟩ => by
    subst e
    rw [List.reverse_cons, List.reverse_cons]
    exact Rps.append (Rps.reverse t) (Rps.one a)
theorem Rps.eraseIdx : ∀ {xs : List PV} {ms : List M} (n : Nat), Rps A h xs ms → Rps A h (xs.eraseIdx n) (ms.eraseIdx n)
  | [], _, n, r => by cases r; simp [Rps]
  | _ :: _, _, 0, ⟨v, r, e, a, t⟩ => by subst e; exact t
  | _ :: _, _, n + 1, ⟨v, r, e, a, t⟩ => by subst e; exact ⟨v, _, rfl, a, Rps.eraseIdx n t⟩
theorem Rps.rep {xs : List PV} {ms : List M} (r : Rps A h xs ms) : ∀ k : Nat, Rps A h (List.replicate k xs).flatten (List.replicate k ms).flatten
  | 0 => rfl
  | k + 1 => by
    rw [List.replicate_succ, List.replicate_succ, List.flatten_cons, List.flatten_cons]
    exact Rps.append r (Rps.rep r k)
theorem Rps.dropLast {xs : List PV} {ms : List M} (r : Rps A h xs ms) : Rps A h xs.dropLast ms.dropLast := by
  rw [List.dropLast_eq_take, List.dropLast_eq_take, r.length]; exact r.take _
theorem Rps.ints : ∀ {is : List Int} {ms : List M}, Rps A h (is.map PV.int) ms → ms = is.map M.int
  | [], _, r => r
  | _ :: _, _, ⟨v, r, e, a, t⟩ => by subst e; cases a; simp [Rps.ints t]
theorem Rps.of_ints : ∀ (is : List Int), Rps A h (is.map PV.int) (is.map M.int)
  | [] => rfl
  | _ :: r => ⟨_, _, rfl, rfl, Rps.of_ints r⟩
theorem Rps.bls : ∀ {is : List Bool} {ms : List M}, Rps A h (is.map PV.bl) ms → ms = is.map M.bl
  | [], _, r => r
  | _ :: _, _, ⟨v, r, e, a, t⟩ => by subst e; cases a; simp [Rps.bls t]
end
/-- the value, where its own list may be anyone's -/
def RpT (A : Nat → Prop) (h : MH) (x : PV) (m : M) : Prop := match x with
  | .lst xs => ∃ n ms, m = .ref n ∧ h[n]? = some (.lst ms) ∧ Rps A h xs ms
  | .rol xs => ∃ n ms, m = .ref n ∧ h[n]? = some (.rol ms) ∧ Rps A h xs ms
  | .dct ks => ∃ n ms, m = .ref n ∧ h[n]? = some (.dct ms) ∧ Rpk A h ks ms
  | x => Rp A h x m
theorem Rp.toT {A : Nat → Prop} {h : MH} {x : PV} {m : M} (r : Rp A h x m) : RpT A h x m := by
  cases x with
  | lst xs => obtain ⟨n, ms, e, _, g, q⟩ := r; exact ⟨n, ms, e, g, q⟩
  | rol xs => obtain ⟨n, ms, e, _, g, q⟩ := r; exact ⟨n, ms, e, g, q⟩
  | dct xs => obtain ⟨n, ms, e, _, g, q⟩ := r; exact ⟨n, ms, e, g, q⟩
  | _ => exact r
def RpTs (A : Nat → Prop) (h : MH) : List PV → List M → Prop
  | [], ms => ms = []
  | x :: xs, ms => ∃ m r, ms = m :: r ∧ RpT A h x m ∧ RpTs A h xs r
theorem Rps.toT {A : Nat → Prop} {h : MH} : ∀ {xs : List PV} {ms : List M}, Rps A h xs ms → RpTs A h xs ms
  | [], _, r => r
  | _ :: _, _, ⟨v, r, e, a, t⟩ => ⟨v, r, e, a.toT, Rps.toT t⟩
theorem RpTs.length {A : Nat → Prop} {h : MH} : ∀ {xs : List PV} {ms : List M}, RpTs A h xs ms → xs.length = ms.length
  | [], _, r => by cases r; rfl
  | _ :: _, _, ⟨m, t, e, a, b⟩ => by subst e; simp [RpTs.length b]
/-- an object that a name owns -/
def RpO (A : Nat → Prop) (h : MH) (x : PV) (n : Nat) : Prop := match x with
  | .lst xs => ∃ ms, h[n]? = some (.lst ms) ∧ Rps A h xs ms
  | .dct ks => ∃ ms, h[n]? = some (.dct ms) ∧ Rpk A h ks ms
  | _ => False
theorem RpO.toT {A : Nat → Prop} {h : MH} {x : PV} {n : Nat} (r : RpO A h x n) : RpT A h x (.ref n) := by
  cases x with
  | lst xs => obtain ⟨ms, g, q⟩ := r; exact ⟨n, ms, rfl, g, q⟩
  | dct xs => obtain ⟨ms, g, q⟩ := r; exact ⟨n, ms, rfl, g, q⟩
  | _ => exact r.elim
theorem RpO.toR {A : Nat → Prop} {h : MH} {x : PV} {n : Nat} (r : RpO A h x n) (a : A n) : Rp A h x (.ref n) := by
  cases x with
  | lst xs => obtain ⟨ms, g, q⟩ := r; exact ⟨n, ms, rfl, a, g, q⟩
  | dct xs => obtain ⟨ms, g, q⟩ := r; exact ⟨n, ms, rfl, a, g, q⟩
  | _ => exact r.elim
theorem RpO.mono {A A' : Nat → Prop} {h h' : MH} {x : PV} {n : Nat} (f : ∀ n o, A n → h[n]? = some o → A' n ∧ h'[n]? = some o) (e : h'[n]? = h[n]?) (r : RpO A h x n) : RpO A' h' x n := by
  cases x with
  | lst xs => obtain ⟨ms, g, q⟩ := r; exact ⟨ms, e.trans g, q.mono f⟩
  | dct xs => obtain ⟨ms, g, q⟩ := r; exact ⟨ms, e.trans g, q.mono f⟩
  | _ => exact r.elim
def mutO : O → Prop
  | .lst _ => True
  | .dct _ => True
  | .ins _ _ _ => True
  | _ => False
theorem RpO.mut {A : Nat → Prop} {h : MH} {x : PV} {n : Nat} (r : RpO A h x n) : ∃ o, h[n]? = some o ∧ mutO o := by
  cases x with
  | lst xs => obtain ⟨ms, g, q⟩ := r; exact ⟨_, g, trivial⟩
  | dct xs => obtain ⟨ms, g, q⟩ := r; exact ⟨_, g, trivial⟩
  | _ => exact r.elim

/-! ### who owns what -/
def Un (own : List Nat) (ow : Nat → Option Nat) (n : Nat) : Prop := ∀ i, i ∈ own → ow i ≠ some n
def Av (A0 : Nat → Prop) (own : List Nat) (ow : Nat → Option Nat) (n : Nat) : Prop := A0 n ∧ Un own ow n
structure RSt (Z : Bs) (A0 : Nat → Prop) (own : List Nat) (ow : Nat → Option Nat) (s : VS) (sm : MS) (h : MH) : Prop where
  len : s.length = sm.length
  frz : ∀ i pv, i ∉ own → s[i]? = some (some pv) → ∃ m, sm[i]? = some (some m) ∧ Rp (Av A0 own ow) h pv m
  ows : ∀ i pv, i ∈ own → s[i]? = some (some pv) → ∃ n, ow i = some n ∧ sm[i]? = some (some (.ref n)) ∧ RpO (Av A0 own ow) h pv n
  ex : ∀ i n, i ∈ own → ow i = some n → A0 n ∧ ∃ o, h[n]? = some o ∧ mutO o
  inj : ∀ i j n, i ∈ own → j ∈ own → ow i = some n → ow j = some n → i = j
  fr : ∀ n, h.length ≤ n → A0 n
  tb : ∀ k o, Z.b[k]? = some o → h[k]? = some o ∧ Un own ow k
  za : ∀ k, Z.A k → Av A0 own ow k ∧ k < h.length
structure Fr (own : List Nat) (ow : Nat → Option Nat) (h : MH) (own' : List Nat) (ow' : Nat → Option Nat) (h' : MH) : Prop where
  len : h.length ≤ h'.length
  keep : ∀ n o, h[n]? = some o → Un own ow n → h'[n]? = some o ∧ Un own' ow' n
section
variable {Z : Bs} {A0 : Nat → Prop} {own own' own'' : List Nat} {ow ow' ow'' : Nat → Option Nat} {s s' : VS} {sm sm' : MS} {h h' h'' : MH}
theorem Fr.refl : Fr own ow h own ow h := ⟨Nat.le_refl _, fun _ _ e u => ⟨e, u⟩⟩
theorem Fr.trans (a : Fr own ow h own' ow' h') (b : Fr own' ow' h' own'' ow'' h'') : Fr own ow h own'' ow'' h'' :=
  ⟨Nat.le_trans a.len b.len, fun n o e u => let ⟨e1, u1⟩ := a.keep n o e u; b.keep n o e1 u1⟩
theorem Fr.pre (r : MH) : Fr own ow h own ow (h ++ r) := ⟨by simp, fun _ _ e u => ⟨get_pre (List.prefix_append _ _) e, u⟩⟩
theorem Fr.drop (f : own' ⊆ own) : Fr own ow h own' ow h := ⟨Nat.le_refl _, fun _ _ e u => ⟨e, fun i hi => u i (f hi)⟩⟩
theorem Rp.fr {pv : PV} {m : M} (r : Rp (Av A0 own ow) h pv m) (f : Fr own ow h own' ow' h') : Rp (Av A0 own' ow') h' pv m :=
  r.mono fun n o a e => ⟨⟨a.1, (f.keep n o e a.2).2⟩, (f.keep n o e a.2).1⟩
theorem Rps.fr {pv : List PV} {m : List M} (r : Rps (Av A0 own ow) h pv m) (f : Fr own ow h own' ow' h') : Rps (Av A0 own' ow') h' pv m :=
  r.mono fun n o a e => ⟨⟨a.1, (f.keep n o e a.2).2⟩, (f.keep n o e a.2).1⟩
theorem RSt.un (r : RSt Z A0 own ow s sm h) {n : Nat} (hn : h.length ≤ n) : Un own ow n := fun i hi e => by
  obtain ⟨_, o, g, _⟩ := r.ex i n hi e
  have := (List.getElem?_eq_some_iff.mp g).1
  omega
theorem RSt.av (r : RSt Z A0 own ow s sm h) {n : Nat} (hn : h.length ≤ n) : Av A0 own ow n := ⟨r.fr n hn, r.un hn⟩
theorem RSt.avs (r : RSt Z A0 own ow s sm h) : ∀ n, h.length ≤ n → Av A0 own ow n := fun _ => r.av
theorem RSt.pre (r : RSt Z A0 own ow s sm h) (t : MH) : RSt Z A0 own ow s sm (h ++ t) where
  len := r.len
  frz := fun i pv hi e => let ⟨m, a, b⟩ := r.frz i pv hi e; ⟨m, a, b.fr (Fr.pre t)⟩
  ows := fun i pv hi e => let ⟨n, a, b, c⟩ := r.ows i pv hi e; ⟨n, a, b, c.mono (fun n o a e => ⟨a, get_pre (List.prefix_append _ _) e⟩) (by
    obtain ⟨o, g, _⟩ := c.mut
    rw [g]; exact get_pre (List.prefix_append _ _) g)⟩
  ex := fun i n hi e => let ⟨a, o, g, m⟩ := r.ex i n hi e; ⟨a, o, get_pre (List.prefix_append _ _) g, m⟩
  inj := r.inj
  fr := fun n hn => r.fr n (by simp at hn; omega)
  tb := fun k o e => ⟨get_pre (List.prefix_append _ _) (r.tb k o e).1, (r.tb k o e).2⟩
  za := fun k e => ⟨(r.za k e).1, by have := (r.za k e).2; simp; omega⟩
theorem RSt.pre' (r : RSt Z A0 own ow s sm h) (t : h <+: h') : RSt Z A0 own ow s sm h' := by
  obtain ⟨t, rfl⟩ := t; exact r.pre t
theorem Fr.pre' (t : h <+: h') : Fr own ow h own ow h' := by
  obtain ⟨t, rfl⟩ := t; exact Fr.pre t
/-- fewer owners -/
theorem RSt.drop (r : RSt Z A0 own ow s sm h) (f : own' ⊆ own) : RSt Z A0 own' ow s sm h where
  len := r.len
  frz := fun i pv hi e => by
    by_cases hm : i ∈ own
    · obtain ⟨n, a, b, c⟩ := r.ows i pv hm e
      refine ⟨_, b, RpO.toR (c.mono (fun n o a e => ⟨⟨a.1, fun j hj => a.2 j (f hj)⟩, e⟩) rfl) ⟨(r.ex i n hm a).1, fun j hj ej => ?_⟩⟩
      have := r.inj i j n hm (f hj) a ej
      subst this
      exact hi hj
    · obtain ⟨m, a, b⟩ := r.frz i pv hm e
      exact ⟨m, a, b.fr (Fr.drop f)⟩
  ows := fun i pv hi e => let ⟨n, a, b, c⟩ := r.ows i pv (f hi) e; ⟨n, a, b, c.mono (fun n o a e => ⟨⟨a.1, fun j hj => a.2 j (f hj)⟩, e⟩) rfl⟩
  ex := fun i n hi e => r.ex i n (f hi) e
  inj := fun i j n hi hj => r.inj i j n (f hi) (f hj)
  fr := r.fr
  tb := fun k o e => ⟨(r.tb k o e).1, fun i hi => (r.tb k o e).2 i (f hi)⟩
  za := fun k e => ⟨⟨(r.za k e).1.1, fun i hi => (r.za k e).1.2 i (f hi)⟩, (r.za k e).2⟩
/-- a slot that nobody owns gets a value -/
theorem RSt.put (r : RSt Z A0 own ow s sm h) {i : Nat} {pv : PV} {m : M} (hi : i ∉ own) (q : Rp (Av A0 own ow) h pv m) : RSt Z A0 own ow (s.set i (some pv)) (sm.set i (some m)) h where
  len := by simp [r.len]
  frz := fun j pv' hj e => by
    by_cases hji : j = i
    · subst hji
      have hl : j < s.length := by have := (List.getElem?_eq_some_iff.mp e).1; simpa using this
      rw [List.getElem?_set_self hl] at e
      cases e
      exact ⟨m, by rw [List.getElem?_set_self (by rw [← r.len]; exact hl)], q⟩
    · rw [List.getElem?_set_ne (Ne.symm hji)] at e
      obtain ⟨w, h1, h2⟩ := r.frz j pv' hj e
      exact ⟨w, by rw [List.getElem?_set_ne (Ne.symm hji)]; exact h1, h2⟩
  ows := fun j pv' hj e => by
    have hji : j ≠ i := by rintro rfl; exact hi hj
    rw [List.getElem?_set_ne (Ne.symm hji)] at e
    obtain ⟨n, a, b, c⟩ := r.ows j pv' hj e
    exact ⟨n, a, by rw [List.getElem?_set_ne (Ne.symm hji)]; exact b, c⟩
  ex := r.ex
  inj := r.inj
  fr := r.fr
  tb := r.tb
  za := r.za
theorem RSt.unset (r : RSt Z A0 own ow s sm h) {i : Nat} (hi : i ∉ own) : RSt Z A0 own ow (s.set i none) (sm.set i none) h where
  len := by simp [r.len]
  frz := fun j pv' hj e => by
    by_cases hji : j = i
    · subst hji
      have hl : j < s.length := by have := (List.getElem?_eq_some_iff.mp e).1; simpa using this
      rw [List.getElem?_set_self hl] at e
      cases e
    · rw [List.getElem?_set_ne (Ne.symm hji)] at e
      obtain ⟨w, h1, h2⟩ := r.frz j pv' hj e
      exact ⟨w, by rw [List.getElem?_set_ne (Ne.symm hji)]; exact h1, h2⟩
  ows := fun j pv' hj e => by
    have hji : j ≠ i := by rintro rfl; exact hi hj
    rw [List.getElem?_set_ne (Ne.symm hji)] at e
    obtain ⟨n, a, b, c⟩ := r.ows j pv' hj e
    exact ⟨n, a, by rw [List.getElem?_set_ne (Ne.symm hji)]; exact b, c⟩
  ex := r.ex
  inj := r.inj
  fr := r.fr
  tb := r.tb
  za := r.za
/-- an owner's object changes -/
theorem RSt.upd (r : RSt Z A0 own ow s sm h) {i n : Nat} {pv : PV} {o : O} (hi : i ∈ own) (hs : i < s.length) (hm : sm[i]? = some (some (.ref n))) (hn : ow i = some n) (mo : mutO o) (q : RpO (Av A0 own ow) (h.set n o) pv n) :
    RSt Z A0 own ow (s.set i (some pv)) sm (h.set n o) ∧ Fr own ow h own ow (h.set n o) := by
  have kp : ∀ k o', h[k]? = some o' → k ≠ n → (h.set n o)[k]? = some o' := fun k o' e z => by rw [List.getElem?_set_ne (Ne.symm z)]; exact e
  have ku : ∀ k o', h[k]? = some o' → Un own ow k → (h.set n o)[k]? = some o' := fun k o' e u => kp k o' e fun z => u i hi (z ▸ hn)
  have hl : n < h.length := by
    obtain ⟨_, o', g, _⟩ := r.ex i n hi hn
    exact (List.getElem?_eq_some_iff.mp g).1
  have fr : Fr own ow h own ow (h.set n o) := ⟨by simp, fun k o' e u => ⟨ku k o' e u, u⟩⟩
  refine ⟨⟨by simp [r.len], fun j pv' hj e => ?_, fun j pv' hj e => ?_, fun j k hj e => ?_, r.inj, fun k hk => r.fr k (by simpa using hk), fun k o' e => ⟨kp k o' (r.tb k o' e).1 fun z => (r.tb k o' e).2 i hi (z ▸ hn), (r.tb k o' e).2⟩, fun k e => ⟨(r.za k e).1, by simpa using (r.za k e).2⟩⟩, fr⟩
  · have hji : j ≠ i := by rintro rfl; exact hj hi
    rw [List.getElem?_set_ne (Ne.symm hji)] at e
    obtain ⟨w, h1, h2⟩ := r.frz j pv' hj e
    exact ⟨w, h1, h2.fr fr⟩
  · by_cases hji : j = i
    · subst hji
      rw [List.getElem?_set_self hs] at e
      cases e
      exact ⟨n, hn, hm, q⟩
    · rw [List.getElem?_set_ne (Ne.symm hji)] at e
      obtain ⟨k, a, b, c⟩ := r.ows j pv' hj e
      have hk : k ≠ n := by rintro rfl; exact hji (r.inj j i k hj hi a hn)
      exact ⟨k, a, b, c.mono (fun k o' a e => ⟨a, ku k o' e a.2⟩) (List.getElem?_set_ne (Ne.symm hk))⟩
  · obtain ⟨a, o', g, m⟩ := r.ex j k hj e
    by_cases hk : k = n
    · subst hk
      exact ⟨a, o, List.getElem?_set_self hl, mo⟩
    · exact ⟨a, o', kp k o' g hk, m⟩
/-- a fresh object for an owner -/
def Hid (A0 : Nat → Prop) (n : Nat) : Nat → Prop := fun k => A0 k ∧ k ≠ n
def upw (ow : Nat → Option Nat) (i n : Nat) : Nat → Option Nat := fun j => if j = i then some n else ow j
theorem upw_self {i n : Nat} : upw ow i n i = some n := if_pos rfl
theorem upw_ne {i n j : Nat} (e : j ≠ i) : upw ow i n j = ow j := if_neg e
theorem un_take {i n k : Nat} (hi : i ∉ own) (u : Un own ow k) (e : k ≠ n) : Un (i :: own) (upw ow i n) k := fun j hj => by
  rcases List.mem_cons.mp hj with rfl | hk
  · rw [upw_self]; intro z; cases z; exact e rfl
  · have : j ≠ i := fun z => hi (z ▸ hk)
    rw [upw_ne this]; exact u j hk
theorem RSt.take {i n : Nat} {pv : PV} (r : RSt Z (Hid A0 n) own ow s sm h) (hi : i ∉ own) (a : A0 n) (u : Un own ow n) (q : RpO (Av (Hid A0 n) own ow) h pv n) (hb : ∀ k o, Z.b[k]? = some o → k ≠ n) :
    RSt Z A0 (i :: own) (upw ow i n) (s.set i (some pv)) (sm.set i (some (.ref n))) h := by
  have mv : ∀ k o, Av (Hid A0 n) own ow k → h[k]? = some o → Av A0 (i :: own) (upw ow i n) k ∧ h[k]? = some o := fun k o a e => ⟨⟨a.1.1, un_take hi a.2 a.1.2⟩, e⟩
  refine ⟨by simp [r.len], fun j pv' hj e => ?_, fun j pv' hj e => ?_, fun j k hj e => ?_, fun j l k hj hl e1 e2 => ?_, fun k hk => (r.fr k hk).1, fun k o e => ⟨(r.tb k o e).1, un_take hi (r.tb k o e).2 (hb k o e)⟩, fun k e => ⟨⟨(r.za k e).1.1.1, un_take hi (r.za k e).1.2 (r.za k e).1.1.2⟩, (r.za k e).2⟩⟩
  · have hji : j ≠ i := fun z => hj (z ▸ List.mem_cons_self)
    rw [List.getElem?_set_ne (Ne.symm hji)] at e
    obtain ⟨w, h1, h2⟩ := r.frz j pv' (fun z => hj (List.mem_cons_of_mem _ z)) e
    exact ⟨w, by rw [List.getElem?_set_ne (Ne.symm hji)]; exact h1, h2.mono mv⟩
  · by_cases hji : j = i
    · subst hji
      have hl : j < s.length := by have := (List.getElem?_eq_some_iff.mp e).1; simpa using this
      rw [List.getElem?_set_self hl] at e
      cases e
      clear hj
      exact ⟨n, upw_self, by rw [List.getElem?_set_self (by rw [← r.len]; exact hl)], q.mono mv rfl⟩
    · have hj : j ∈ own := (List.mem_cons.mp hj).resolve_left hji
      rw [List.getElem?_set_ne (Ne.symm hji)] at e
      obtain ⟨k, a, b, c⟩ := r.ows j pv' hj e
      exact ⟨k, by rw [upw_ne hji]; exact a, by rw [List.getElem?_set_ne (Ne.symm hji)]; exact b, c.mono mv rfl⟩
  · by_cases hji : j = i
    · subst hji
      rw [upw_self] at e; cases e
      exact ⟨a, q.mut⟩
    · rw [upw_ne hji] at e
      obtain ⟨x, y⟩ := r.ex j k ((List.mem_cons.mp hj).resolve_left hji) e
      exact ⟨x.1, y⟩
  · by_cases hji : j = i <;> by_cases hli : l = i
    · rw [hji, hli]
    · subst hji
      rw [upw_self] at e1; cases e1
      rw [upw_ne hli] at e2
      exact absurd e2 (u l ((List.mem_cons.mp hl).resolve_left hli))
    · subst hli
      rw [upw_self] at e2; cases e2
      rw [upw_ne hji] at e1
      exact absurd e1 (u j ((List.mem_cons.mp hj).resolve_left hji))
    · rw [upw_ne hji] at e1; rw [upw_ne hli] at e2
      exact r.inj j l k ((List.mem_cons.mp hj).resolve_left hji) ((List.mem_cons.mp hl).resolve_left hli) e1 e2
theorem Fr.take {i n : Nat} (f : Fr own ow h own ow h') (hi : i ∉ own) (hn : h.length ≤ n) : Fr own ow h (i :: own) (upw ow i n) h' :=
  ⟨f.len, fun k o e u => ⟨(f.keep k o e u).1, un_take hi (f.keep k o e u).2 fun z => by
    have := (List.getElem?_eq_some_iff.mp e).1
    omega⟩⟩
/-- the newest address is nobody's yet -/
theorem RSt.hide {n : Nat} (r : RSt Z A0 own ow s sm h) (p : h <+: h') (hn : h.length ≤ n) (hn' : n < h'.length) : RSt Z (Hid A0 n) own ow s sm h' := by
  have mv : ∀ k o, Av A0 own ow k → h[k]? = some o → Av (Hid A0 n) own ow k ∧ h'[k]? = some o := fun k o a e => ⟨⟨⟨a.1, fun z => by
    have := (List.getElem?_eq_some_iff.mp e).1
    omega⟩, a.2⟩, get_pre p e⟩
  refine ⟨r.len, fun i pv hi e => ?_, fun i pv hi e => ?_, fun i k hi e => ?_, r.inj, fun k hk => ⟨r.fr k (by have := p.length_le; omega), by omega⟩, fun k o e => ⟨get_pre p (r.tb k o e).1, (r.tb k o e).2⟩, fun k e => ⟨⟨⟨(r.za k e).1.1, by have := (r.za k e).2; omega⟩, (r.za k e).1.2⟩, by have := (r.za k e).2; have := p.length_le; omega⟩⟩
  · obtain ⟨m, a, b⟩ := r.frz i pv hi e
    exact ⟨m, a, b.mono mv⟩
  · obtain ⟨k, a, b, c⟩ := r.ows i pv hi e
    refine ⟨k, a, b, c.mono mv ?_⟩
    obtain ⟨o, g, _⟩ := c.mut
    rw [g]; exact get_pre p g
  · obtain ⟨a, o, g, m⟩ := r.ex i k hi e
    have := (List.getElem?_eq_some_iff.mp g).1
    exact ⟨⟨a, by omega⟩, o, get_pre p g, m⟩
theorem RSt.un_hide {n : Nat} (r : RSt Z (Hid A0 n) own ow s sm h) : Un own ow n := fun i hi e => (r.ex i n hi e).1.2 rfl
theorem RSt.show (r : RSt Z (Hid A0 n) own ow s sm h) (a : A0 n) : RSt Z A0 own ow s sm h := by
  have mv : ∀ k o, Av (Hid A0 n) own ow k → h[k]? = some o → Av A0 own ow k ∧ h[k]? = some o := fun k o a e => ⟨⟨a.1.1, a.2⟩, e⟩
  exact ⟨r.len, fun i pv hi e => let ⟨m, a, b⟩ := r.frz i pv hi e; ⟨m, a, b.mono mv⟩, fun i pv hi e => let ⟨k, a, b, c⟩ := r.ows i pv hi e; ⟨k, a, b, c.mono mv rfl⟩,
    fun i k hi e => ⟨(r.ex i k hi e).1.1, (r.ex i k hi e).2⟩, r.inj, fun k hk => (r.fr k hk).1, r.tb, fun k e => ⟨⟨(r.za k e).1.1.1, (r.za k e).1.2⟩, (r.za k e).2⟩⟩
end
/-- a fresh result: no other value stands on it -/
def Nw (Z : Bs) (A0 : Nat → Prop) (own : List Nat) (ow : Nat → Option Nat) (h : MH) (s' : VS) (sm : MS) (h' : MH) (pv : PV) (m : M) : Prop :=
  ∀ n, m = .ref n → h.length ≤ n ∧ A0 n ∧ RSt Z (Hid A0 n) own ow s' sm h' ∧ RpO (Av (Hid A0 n) own ow) h' pv n
def RpN (A : Nat → Prop) (h h' : MH) (x : PV) (n : Nat) : Prop := match x with
  | .lst xs => ∃ ms, h'[n]? = some (.lst ms) ∧ Rps A h xs ms
  | .dct ks => ∃ ms, h'[n]? = some (.dct ms) ∧ Rpk A h ks ms
  | _ => False
structure Out (nw : Bool) (A : Nat → Prop) (h : MH) (v : PV) (m : M) (h' : MH) : Prop where
  pre : h <+: h'
  rp : Rp A h' v m
  nw : nw = true → ∀ n, m = .ref n → h.length ≤ n ∧ RpN A h h' v n
theorem nw_of {Z : Bs} {A0 : Nat → Prop} {own : List Nat} {ow : Nat → Option Nat} {h0 h h' : MH} {s : VS} {sm : MS} {v : PV} {m : M} {nw : Bool} (r : RSt Z A0 own ow s sm h) (o : Out nw (Av A0 own ow) h v m h') (l : h0.length ≤ h.length) :
    nw = true → Nw Z A0 own ow h0 s sm h' v m := fun e n em => by
  obtain ⟨hn, q⟩ := o.nw e n em
  have mv : ∀ k o', Av A0 own ow k → h[k]? = some o' → Av (Hid A0 n) own ow k ∧ h'[k]? = some o' := fun k o' a e => ⟨⟨⟨a.1, fun z => by
    have := (List.getElem?_eq_some_iff.mp e).1
    omega⟩, a.2⟩, get_pre o.pre e⟩
  have hn' : n < h'.length := by
    cases v with
    | lst xs => obtain ⟨ms, g, _⟩ := q; exact (List.getElem?_eq_some_iff.mp g).1
    | dct xs => obtain ⟨ms, g, _⟩ := q; exact (List.getElem?_eq_some_iff.mp g).1
    | _ => exact q.elim
  refine ⟨by omega, r.fr n hn, r.hide o.pre hn hn', ?_⟩
  cases v with
  | lst xs => obtain ⟨ms, g, p⟩ := q; exact ⟨ms, g, p.mono mv⟩
  | dct xs => obtain ⟨ms, g, p⟩ := q; exact ⟨ms, g, p.mono mv⟩
  | _ => exact q.elim

/-! ### what it is to simulate -/
section
variable (Z : Bs) (own : List Nat)
def ESim (nw : Bool) (w : MTE) (v : VE) : Prop := ∀ {A0 : Nat → Prop} {ow : Nat → Option Nat} {s : VS} {sm : MS} {h : MH}, RSt Z A0 own ow s sm h → v s ≠ .bad → ∀ Q E : KM,
  (∀ pv s' m h', v s = .ok pv s' → RSt Z A0 own ow s' sm h' → Fr own ow h own ow h' → Rp (Av A0 own ow) h' pv m → (nw = true → Nw Z A0 own ow h s' sm h' pv m) → Q m h') →
  (∀ pv s' m h', v s = .xc pv s' → RSt Z A0 own ow s' sm h' → Fr own ow h own ow h' → Rp (Av A0 own ow) h' pv m → E m h') → w sm h Q E
def BSim (w : MTE) (v : VE) : Prop := ∀ {A0 : Nat → Prop} {ow : Nat → Option Nat} {s : VS} {sm : MS} {h : MH}, RSt Z A0 own ow s sm h → v s ≠ .bad → ∀ Q E : KM,
  (∀ pv s' m h', v s = .ok pv s' → RSt Z A0 own ow s' sm h' → Fr own ow h own ow h' → RpT (Av A0 own ow) h' pv m → Q m h') →
  (∀ pv s' m h', v s = .xc pv s' → RSt Z A0 own ow s' sm h' → Fr own ow h own ow h' → Rp (Av A0 own ow) h' pv m → E m h') → w sm h Q E
def TSim (w : MTT) (v : VT) : Prop := ∀ {A0 : Nat → Prop} {ow : Nat → Option Nat} {s : VS} {sm : MS} {h : MH}, RSt Z A0 own ow s sm h → v s ≠ .bad → ∀ (Q : Bool → MH → Prop) (E : KM),
  (∀ b s' h', v s = .ok b s' → RSt Z A0 own ow s' sm h' → Fr own ow h own ow h' → Q b h') →
  (∀ pv s' m h', v s = .xc pv s' → RSt Z A0 own ow s' sm h' → Fr own ow h own ow h' → Rp (Av A0 own ow) h' pv m → E m h') → w sm h Q E
def ASim (w : MTA) (v : VA) : Prop := ∀ {A0 : Nat → Prop} {ow : Nat → Option Nat} {s : VS} {sm : MS} {h : MH}, RSt Z A0 own ow s sm h → v s ≠ .bad → ∀ (Q : List M → MH → Prop) (E : KM),
  (∀ pv s' m h', v s = .ok pv s' → RSt Z A0 own ow s' sm h' → Fr own ow h own ow h' → Rps (Av A0 own ow) h' pv m → Q m h') →
  (∀ pv s' m h', v s = .xc pv s' → RSt Z A0 own ow s' sm h' → Fr own ow h own ow h' → Rp (Av A0 own ow) h' pv m → E m h') → w sm h Q E
/-- arguments, where a name's own object may be among them -/
def BASim (w : MTA) (v : VA) : Prop := ∀ {A0 : Nat → Prop} {ow : Nat → Option Nat} {s : VS} {sm : MS} {h : MH}, RSt Z A0 own ow s sm h → v s ≠ .bad → ∀ (Q : List M → MH → Prop) (E : KM),
  (∀ pv s' m h', v s = .ok pv s' → RSt Z A0 own ow s' sm h' → Fr own ow h own ow h' → RpTs (Av A0 own ow) h' pv m → Q m h') →
  (∀ pv s' m h', v s = .xc pv s' → RSt Z A0 own ow s' sm h' → Fr own ow h own ow h' → Rp (Av A0 own ow) h' pv m → E m h') → w sm h Q E
/-- what is walked -/
def ISim (w : MTI) (v : VA) : Prop := ∀ {A0 : Nat → Prop} {ow : Nat → Option Nat} {s : VS} {sm : MS} {h : MH}, RSt Z A0 own ow s sm h → v s ≠ .bad → ∀ (Q : List M → (MH → Prop) → MH → Prop) (E : KM),
  (∀ xs s' ms chk h', v s = .ok xs s' → RSt Z A0 own ow s' sm h' → Fr own ow h own ow h' → Rps (Av A0 own ow) h' xs ms → (∀ own2 ow2 h2, Fr own ow h' own2 ow2 h2 → chk h2) → Q ms chk h') →
  (∀ pv s' m h', v s = .xc pv s' → RSt Z A0 own ow s' sm h' → Fr own ow h own ow h' → Rp (Av A0 own ow) h' pv m → E m h') → w sm h Q E
end
def OpSim (nw : Bool) (m : MR2) (f : PV → PV → Option PV) : Prop := ∀ {A : Nat → Prop} {h : MH} {x y : PV} {mx my : M} {v : PV}, (∀ n, h.length ≤ n → A n) → RpT A h x mx → RpT A h y my → f x y = some v →
  ∀ Q : KM, (∀ m' h', Out nw A h v m' h' → Q m' h') → m mx my h Q
def UnSim (nw : Bool) (m : MR1) (f : PV → Option PV) : Prop := ∀ {A : Nat → Prop} {h : MH} {x : PV} {mx : M} {v : PV}, (∀ n, h.length ≤ n → A n) → RpT A h x mx → f x = some v →
  ∀ Q : KM, (∀ m' h', Out nw A h v m' h' → Q m' h') → m mx h Q
def FnSim (nw : Bool) (m : MF) (f : List PV → Option PV) : Prop := ∀ {A : Nat → Prop} {h : MH} {xs : List PV} {ms : List M} {v : PV}, (∀ n, h.length ≤ n → A n) → RpTs A h xs ms → f xs = some v →
  ∀ Q : KM, (∀ m' h', Out nw A h v m' h' → Q m' h') → m ms h Q

/-! ### expressions -/
def vVar (i : Nat) : VE := fun s => match s[i]? with
  | some (some v) => .ok v s
  | _ => .bad
def vCon (v : PV) : VE := fun s => .ok v s
def vOp (f : PV → PV → Option PV) (a b : VE) : VE := fun s => (a s).bind fun x s1 => (b s1).bind fun y s2 => opt (f x y) s2
/-- the left one is a name's own object, read last -/
def vOpL (f : PV → PV → Option PV) (i : Nat) (b : VE) : VE := fun s => (vVar i s).bind fun _ _ => (b s).bind fun y s1 => (vVar i s1).bind fun x s2 => opt (f x y) s2
def vUn (f : PV → Option PV) (a : VE) : VE := fun s => (a s).bind fun x s1 => opt (f x) s1
def tst (x : PV) : Option Bool := match x with
  | .bl b => some b
  | _ => none
def vTst (a : VE) : VT := fun s => (a s).bind fun x s1 => opt (tst x) s1
def vAndT (a b : VT) : VT := fun s => (a s).bind fun c s1 => if c = true then b s1 else .ok false s1
def vOrT (a b : VT) : VT := fun s => (a s).bind fun c s1 => if c = true then .ok true s1 else b s1
def vNotT (a : VT) : VT := fun s => (a s).bind fun c s1 => .ok (!c) s1
def vAndV (a b : VE) : VE := fun s => (a s).bind fun x s1 => match x with
  | .bl c => if c = true then b s1 else .ok (.bl false) s1
  | _ => .bad
def vOrV (a b : VE) : VE := fun s => (a s).bind fun x s1 => match x with
  | .bl c => if c = true then .ok (.bl true) s1 else b s1
  | _ => .bad
def vNotE (a : VE) : VE := fun s => (a s).bind fun x s1 => match x with
  | .bl c => .ok (.bl (!c)) s1
  | _ => .bad
def vIfE (t : VT) (a b : VE) : VE := fun s => (t s).bind fun c s1 => if c = true then a s1 else b s1
def vChain (f g : PV → PV → Option PV) (a b c : VE) : VE := fun s => (a s).bind fun x s1 => (b s1).bind fun y s2 => match f x y with
  | some (.bl k) => if k = true then (c s2).bind fun z s3 => opt (g y z) s3 else .ok (.bl false) s2
  | _ => .bad
def vNil : VA := fun s => .ok [] s
def vCons (a : VE) (r : VA) : VA := fun s => (a s).bind fun x s1 => (r s1).bind fun xs s2 => .ok (x :: xs) s2
def vConsL (i : Nat) (r : VA) : VA := fun s => (vVar i s).bind fun _ _ => (r s).bind fun xs s1 => (vVar i s1).bind fun x s2 => .ok (x :: xs) s2
def vFn (f : List PV → Option PV) (a : VA) : VE := fun s => (a s).bind fun xs s1 => opt (f xs) s1
def vLst (a : VA) : VE := fun s => (a s).bind fun xs s1 => if xs.length ≤ SZ then .ok (.lst xs) s1 else .bad
def vTup (a : VA) : VE := fun s => (a s).bind fun xs s1 => if xs.length ≤ SZ then .ok (.tup xs) s1 else .bad
def vDct0 : VE := fun s => .ok (.dct []) s
section
variable {Z : Bs} {own : List Nat} {nw : Bool}
theorem ESim.weak {w : MTE} {v : VE} (a : ESim Z own nw w v) : ESim Z own false w v := fun r nb Q E k kx => a r nb Q E (fun pv s' m h' e r' f p _ => k pv s' m h' e r' f p fun z => by cases z) kx
theorem ESim.b {w : MTE} {v : VE} (a : ESim Z own nw w v) : BSim Z own w v := fun r nb Q E k kx => a r nb Q E (fun pv s' m h' e r' f p _ => k pv s' m h' e r' f p.toT) kx
theorem ASim.b {w : MTA} {v : VA} (a : ASim Z own w v) : BASim Z own w v := fun r nb Q E k kx => a r nb Q E (fun pv s' m h' e r' f p => k pv s' m h' e r' f p.toT) kx
theorem v_var {i : Nat} (hi : i ∉ own) : ESim Z own false (wVar i) (vVar i) := by
  intro A0 ow s sm h r nb Q E k kx
  unfold vVar at nb k
  split at nb
  · rename_i v e
    obtain ⟨m, a, b⟩ := r.frz i v hi e
    refine ⟨m, a, k v s m h ?_ r Fr.refl b fun z => by cases z⟩
    simp only [e]
  · exact absurd rfl nb
theorem b_var {i : Nat} : BSim Z own (wVar i) (vVar i) := by
  intro A0 ow s sm h r nb Q E k kx
  unfold vVar at nb k
  split at nb
  · rename_i v e
    by_cases hi : i ∈ own
    · obtain ⟨n, a, b, c⟩ := r.ows i v hi e
      refine ⟨_, b, k v s _ h ?_ r Fr.refl c.toT⟩
      simp only [e]
    · obtain ⟨m, a, b⟩ := r.frz i v hi e
      refine ⟨m, a, k v s m h ?_ r Fr.refl b.toT⟩
      simp only [e]
  · exact absurd rfl nb
def conR (x : PV) (m : M) : Prop := ∀ A h, Rp A h x m
theorem v_con {x : PV} {m : M} (c : conR x m) (hm : ∀ n, m ≠ .ref n) : ESim Z own true (wCon m) (vCon x) := fun r nb Q E k kx => k x _ m _ rfl r Fr.refl (c _ _) fun _ n e => absurd e (hm n)
theorem v_op {m : MR2} {f : PV → PV → Option PV} {wa wb : MTE} {va vb : VE} {n1 : Bool} (ho : OpSim nw m f) (ha : ESim Z own n1 wa va) (hb : BSim Z own wb vb) : ESim Z own nw (wOp m wa wb) (vOp f va vb) := by
  intro A0 ow s sm h r nb Q E k kx
  have na : va s ≠ .bad := fun e => nb (by simp only [vOp, e, ER.bind])
  refine ha r na _ _ (fun x s1 m1 h1 e1 r1 f1 p1 _ => ?_) (fun x s1 m1 h1 e1 r1 f1 p1 => kx x s1 m1 h1 (by simp only [vOp, e1, ER.bind]) r1 f1 p1)
  have nb' : vb s1 ≠ .bad := fun e => nb (by simp only [vOp, e1, e, ER.bind])
  refine hb r1 nb' _ _ (fun y s2 m2 h2 e2 r2 f2 p2 => ?_) (fun y s2 m2 h2 e2 r2 f2 p2 => kx y s2 m2 h2 (by simp only [vOp, e1, e2, ER.bind]) r2 (f1.trans f2) p2)
  cases e : f x y with
  | none => exact absurd (by simp only [vOp, e1, e2, e, ER.bind, opt]) nb
  | some v => exact ho r2.avs (p1.fr f2).toT p2 e _ fun m h' o => k v s2 m h' (by simp only [vOp, e1, e2, e, ER.bind, opt]) (r2.pre' o.pre) ((f1.trans f2).trans (Fr.pre' o.pre)) o.rp (nw_of r2 o (f1.trans f2).len)
theorem RSt.slot {A0 : Nat → Prop} {ow : Nat → Option Nat} {s : VS} {sm : MS} {h : MH} {i : Nat} {v : PV} (r : RSt Z A0 own ow s sm h) (e : s[i]? = some (some v)) : ∃ m, sm[i]? = some (some m) ∧ RpT (Av A0 own ow) h v m := by
  by_cases hi : i ∈ own
  · obtain ⟨n, a, b, c⟩ := r.ows i v hi e
    exact ⟨_, b, c.toT⟩
  · obtain ⟨m, a, b⟩ := r.frz i v hi e
    exact ⟨m, a, b.toT⟩
theorem var_ok {s : VS} {i : Nat} (nb : vVar i s ≠ .bad) : ∃ v, s[i]? = some (some v) ∧ vVar i s = .ok v s := by
  unfold vVar at nb ⊢
  split at nb
  · rename_i v e
    exact ⟨v, e, rfl⟩
  · exact absurd rfl nb
theorem v_opL {m : MR2} {f : PV → PV → Option PV} {wb : MTE} {vb : VE} {n1 : Bool} {i : Nat} (ho : OpSim nw m f) (hb : ESim Z own n1 wb vb) : ESim Z own nw (wOp m (wVar i) wb) (vOpL f i vb) := by
  intro A0 ow s sm h r nb Q E k kx
  obtain ⟨v0, e0, e0'⟩ := var_ok (s := s) (i := i) fun e => nb (by simp only [vOpL, e, ER.bind])
  obtain ⟨m0, em0, _⟩ := r.slot e0
  refine ⟨m0, em0, ?_⟩
  have nb' : vb s ≠ .bad := fun e => nb (by simp only [vOpL, e0', e, ER.bind])
  refine hb r nb' _ _ (fun y s1 m1 h1 e1 r1 f1 p1 _ => ?_) (fun y s1 m1 h1 e1 r1 f1 p1 => kx y s1 m1 h1 (by simp only [vOpL, e0', e1, ER.bind]) r1 f1 p1)
  obtain ⟨v, e2, e2'⟩ := var_ok (s := s1) (i := i) fun e => nb (by simp only [vOpL, e0', e1, e, ER.bind])
  obtain ⟨m2, em2, p2⟩ := r1.slot e2
  rw [em0] at em2
  cases em2
  cases e : f v y with
  | none => exact absurd (by simp only [vOpL, e0', e1, e2', e, ER.bind, opt]) nb
  | some z => exact ho r1.avs p2 p1.toT e _ fun m h' o => k z s1 m h' (by simp only [vOpL, e0', e1, e2', e, ER.bind, opt]) (r1.pre' o.pre) (f1.trans (Fr.pre' o.pre)) o.rp (nw_of r1 o f1.len)
theorem v_un {m : MR1} {f : PV → Option PV} {wa : MTE} {va : VE} (ho : UnSim nw m f) (ha : BSim Z own wa va) : ESim Z own nw (wUn m wa) (vUn f va) := by
  intro A0 ow s sm h r nb Q E k kx
  have na : va s ≠ .bad := fun e => nb (by simp only [vUn, e, ER.bind])
  refine ha r na _ _ (fun x s1 m1 h1 e1 r1 f1 p1 => ?_) (fun x s1 m1 h1 e1 r1 f1 p1 => kx x s1 m1 h1 (by simp only [vUn, e1, ER.bind]) r1 f1 p1)
  cases e : f x with
  | none => exact absurd (by simp only [vUn, e1, e, ER.bind, opt]) nb
  | some v => exact ho r1.avs p1 e _ fun m h' o => k v s1 m h' (by simp only [vUn, e1, e, ER.bind, opt]) (r1.pre' o.pre) (f1.trans (Fr.pre' o.pre)) o.rp (nw_of r1 o f1.len)
theorem v_tst {wa : MTE} {va : VE} (ha : BSim Z own wa va) : TSim Z own (wTst wa) (vTst va) := by
  intro A0 ow s sm h r nb Q E k kx
  have na : va s ≠ .bad := fun e => nb (by simp only [vTst, e, ER.bind])
  refine ha r na _ _ (fun x s1 m1 h1 e1 r1 f1 p1 => ?_) (fun x s1 m1 h1 e1 r1 f1 p1 => kx x s1 m1 h1 (by simp only [vTst, e1, ER.bind]) r1 f1 p1)
  cases e : tst x with
  | none => exact absurd (by simp only [vTst, e1, e, ER.bind, opt]) nb
  | some b =>
    have ex : x = .bl b := by cases x <;> simp [tst] at e; rw [e]
    subst ex
    exact ⟨b, p1, k b s1 h1 (by simp only [vTst, e1, e, ER.bind, opt]) r1 f1⟩
theorem v_andT {wa wb : MTT} {va vb : VT} (ha : TSim Z own wa va) (hb : TSim Z own wb vb) : TSim Z own (wAndT wa wb) (vAndT va vb) := by
  intro A0 ow s sm h r nb Q E k kx
  have na : va s ≠ .bad := fun e => nb (by simp only [vAndT, e, ER.bind])
  refine ha r na _ _ (fun c s1 h1 e1 r1 f1 => ?_) (fun x s1 m1 h1 e1 r1 f1 p1 => kx x s1 m1 h1 (by simp only [vAndT, e1, ER.bind]) r1 f1 p1)
  by_cases hc : c = true
  · rw [if_pos hc]
    have ev : vAndT va vb s = vb s1 := by simp only [vAndT, e1, ER.bind, hc, if_true]
    exact hb r1 (ev ▸ nb) _ _ (fun b s2 h2 e2 r2 f2 => k b s2 h2 (ev.trans e2) r2 (f1.trans f2)) (fun x s2 m2 h2 e2 r2 f2 p2 => kx x s2 m2 h2 (ev.trans e2) r2 (f1.trans f2) p2)
  · rw [if_neg hc]
    exact k false s1 h1 (by simp only [vAndT, e1, ER.bind, if_neg hc]) r1 f1
theorem v_orT {wa wb : MTT} {va vb : VT} (ha : TSim Z own wa va) (hb : TSim Z own wb vb) : TSim Z own (wOrT wa wb) (vOrT va vb) := by
  intro A0 ow s sm h r nb Q E k kx
  have na : va s ≠ .bad := fun e => nb (by simp only [vOrT, e, ER.bind])
  refine ha r na _ _ (fun c s1 h1 e1 r1 f1 => ?_) (fun x s1 m1 h1 e1 r1 f1 p1 => kx x s1 m1 h1 (by simp only [vOrT, e1, ER.bind]) r1 f1 p1)
  by_cases hc : c = true
  · rw [if_pos hc]
    exact k true s1 h1 (by simp only [vOrT, e1, ER.bind, if_pos hc]) r1 f1
  · rw [if_neg hc]
    have ev : vOrT va vb s = vb s1 := by simp only [vOrT, e1, ER.bind, if_neg hc]
    exact hb r1 (ev ▸ nb) _ _ (fun b s2 h2 e2 r2 f2 => k b s2 h2 (ev.trans e2) r2 (f1.trans f2)) (fun x s2 m2 h2 e2 r2 f2 p2 => kx x s2 m2 h2 (ev.trans e2) r2 (f1.trans f2) p2)
theorem v_notT {wa : MTT} {va : VT} (ha : TSim Z own wa va) : TSim Z own (wNotT wa) (vNotT va) := by
  intro A0 ow s sm h r nb Q E k kx
  have na : va s ≠ .bad := fun e => nb (by simp only [vNotT, e, ER.bind])
  exact ha r na _ _ (fun c s1 h1 e1 r1 f1 => k (!c) s1 h1 (by simp only [vNotT, e1, ER.bind]) r1 f1) (fun x s1 m1 h1 e1 r1 f1 p1 => kx x s1 m1 h1 (by simp only [vNotT, e1, ER.bind]) r1 f1 p1)
theorem nw_bl {A0 : Nat → Prop} {ow : Nat → Option Nat} {h h' : MH} {s : VS} {sm : MS} {pv : PV} {b : Bool} : nw = true → Nw Z A0 own ow h s sm h' pv (.bl b) := fun _ n e => by cases e
theorem v_andV {wa wb : MTE} {va vb : VE} {n1 n2 : Bool} (ha : ESim Z own n1 wa va) (hb : ESim Z own n2 wb vb) : ESim Z own false (wAndV wa wb) (vAndV va vb) := by
  intro A0 ow s sm h r nb Q E k kx
  have na : va s ≠ .bad := fun e => nb (by simp only [vAndV, e, ER.bind])
  refine ha r na _ _ (fun x s1 m1 h1 e1 r1 f1 p1 _ => ?_) (fun x s1 m1 h1 e1 r1 f1 p1 => kx x s1 m1 h1 (by simp only [vAndV, e1, ER.bind]) r1 f1 p1)
  cases x with
  | bl c =>
    refine ⟨c, p1, ?_⟩
    by_cases hc : c = true
    · rw [if_pos hc]
      have ev : vAndV va vb s = vb s1 := by simp only [vAndV, e1, ER.bind, hc, if_true]
      exact hb r1 (ev ▸ nb) _ _ (fun b s2 m2 h2 e2 r2 f2 p2 _ => k b s2 m2 h2 (ev.trans e2) r2 (f1.trans f2) p2 fun z => by cases z) (fun x s2 m2 h2 e2 r2 f2 p2 => kx x s2 m2 h2 (ev.trans e2) r2 (f1.trans f2) p2)
    · rw [if_neg hc]
      exact k (.bl false) s1 _ h1 (by simp only [vAndV, e1, ER.bind, if_neg hc]) r1 f1 rfl fun z => by cases z
  | _ => exact absurd (by simp only [vAndV, e1, ER.bind]) nb
theorem v_orV {wa wb : MTE} {va vb : VE} {n1 n2 : Bool} (ha : ESim Z own n1 wa va) (hb : ESim Z own n2 wb vb) : ESim Z own false (wOrV wa wb) (vOrV va vb) := by
  intro A0 ow s sm h r nb Q E k kx
  have na : va s ≠ .bad := fun e => nb (by simp only [vOrV, e, ER.bind])
  refine ha r na _ _ (fun x s1 m1 h1 e1 r1 f1 p1 _ => ?_) (fun x s1 m1 h1 e1 r1 f1 p1 => kx x s1 m1 h1 (by simp only [vOrV, e1, ER.bind]) r1 f1 p1)
  cases x with
  | bl c =>
    refine ⟨c, p1, ?_⟩
    by_cases hc : c = true
    · rw [if_pos hc]
      exact k (.bl true) s1 _ h1 (by simp only [vOrV, e1, ER.bind, if_pos hc]) r1 f1 rfl fun z => by cases z
    · rw [if_neg hc]
      have ev : vOrV va vb s = vb s1 := by simp only [vOrV, e1, ER.bind, if_neg hc]
      exact hb r1 (ev ▸ nb) _ _ (fun b s2 m2 h2 e2 r2 f2 p2 _ => k b s2 m2 h2 (ev.trans e2) r2 (f1.trans f2) p2 fun z => by cases z) (fun x s2 m2 h2 e2 r2 f2 p2 => kx x s2 m2 h2 (ev.trans e2) r2 (f1.trans f2) p2)
  | _ => exact absurd (by simp only [vOrV, e1, ER.bind]) nb
theorem v_notE {wa : MTE} {va : VE} {n1 : Bool} (ha : ESim Z own n1 wa va) : ESim Z own false (wNotE wa) (vNotE va) := by
  intro A0 ow s sm h r nb Q E k kx
  have na : va s ≠ .bad := fun e => nb (by simp only [vNotE, e, ER.bind])
  refine ha r na _ _ (fun x s1 m1 h1 e1 r1 f1 p1 _ => ?_) (fun x s1 m1 h1 e1 r1 f1 p1 => kx x s1 m1 h1 (by simp only [vNotE, e1, ER.bind]) r1 f1 p1)
  cases x with
  | bl c => exact ⟨c, p1, k (.bl (!c)) s1 _ h1 (by simp only [vNotE, e1, ER.bind]) r1 f1 rfl fun z => by cases z⟩
  | _ => exact absurd (by simp only [vNotE, e1, ER.bind]) nb
theorem v_ifE {wt : MTT} {wa wb : MTE} {vt : VT} {va vb : VE} (ht : TSim Z own wt vt) (ha : ESim Z own nw wa va) (hb : ESim Z own nw wb vb) : ESim Z own nw (wIfE wt wa wb) (vIfE vt va vb) := by
  intro A0 ow s sm h r nb Q E k kx
  have na : vt s ≠ .bad := fun e => nb (by simp only [vIfE, e, ER.bind])
  refine ht r na _ _ (fun c s1 h1 e1 r1 f1 => ?_) (fun x s1 m1 h1 e1 r1 f1 p1 => kx x s1 m1 h1 (by simp only [vIfE, e1, ER.bind]) r1 f1 p1)
  have nwt : ∀ s2 h2 pv m, (nw = true → Nw Z A0 own ow h1 s2 sm h2 pv m) → nw = true → Nw Z A0 own ow h s2 sm h2 pv m := fun s2 h2 pv m q e n em => ⟨Nat.le_trans f1.len (q e n em).1, (q e n em).2⟩
  by_cases hc : c = true
  · rw [if_pos hc]
    have ev : vIfE vt va vb s = va s1 := by simp only [vIfE, e1, ER.bind, hc, if_true]
    exact ha r1 (ev ▸ nb) _ _ (fun b s2 m2 h2 e2 r2 f2 p2 n2 => k b s2 m2 h2 (ev.trans e2) r2 (f1.trans f2) p2 (nwt _ _ _ _ n2)) (fun x s2 m2 h2 e2 r2 f2 p2 => kx x s2 m2 h2 (ev.trans e2) r2 (f1.trans f2) p2)
  · rw [if_neg hc]
    have ev : vIfE vt va vb s = vb s1 := by simp only [vIfE, e1, ER.bind, if_neg hc]
    exact hb r1 (ev ▸ nb) _ _ (fun b s2 m2 h2 e2 r2 f2 p2 n2 => k b s2 m2 h2 (ev.trans e2) r2 (f1.trans f2) p2 (nwt _ _ _ _ n2)) (fun x s2 m2 h2 e2 r2 f2 p2 => kx x s2 m2 h2 (ev.trans e2) r2 (f1.trans f2) p2)
theorem v_chain {m m' : MR2} {f g : PV → PV → Option PV} {wa wb wc : MTE} {va vb vc : VE} {n1 n2 : Bool} {n3 : Bool} (ho : OpSim n3 m f) (ho' : OpSim true m' g) (ha : ESim Z own n1 wa va) (hb : ESim Z own n2 wb vb) (hc : BSim Z own wc vc) :
    ESim Z own false (wChain m m' wa wb wc) (vChain f g va vb vc) := by
  intro A0 ow s sm h r nb Q E k kx
  have na : va s ≠ .bad := fun e => nb (by simp only [vChain, e, ER.bind])
  refine ha r na _ _ (fun x s1 m1 h1 e1 r1 f1 p1 _ => ?_) (fun x s1 m1 h1 e1 r1 f1 p1 => kx x s1 m1 h1 (by simp only [vChain, e1, ER.bind]) r1 f1 p1)
  have nb' : vb s1 ≠ .bad := fun e => nb (by simp only [vChain, e1, e, ER.bind])
  refine hb r1 nb' _ _ (fun y s2 m2 h2 e2 r2 f2 p2 _ => ?_) (fun y s2 m2 h2 e2 r2 f2 p2 => kx y s2 m2 h2 (by simp only [vChain, e1, e2, ER.bind]) r2 (f1.trans f2) p2)
  cases e : f x y with
  | none => exact absurd (by simp only [vChain, e1, e2, e, ER.bind]) nb
  | some v =>
    refine ho r2.avs (p1.fr f2).toT p2.toT e _ fun mv h' o => ?_
    cases v with
    | bl c =>
      have emv : mv = .bl c := o.rp
      subst emv
      refine ⟨c, rfl, ?_⟩
      have r3 := r2.pre' o.pre
      have f3 := (f1.trans f2).trans (Fr.pre' (own := own) (ow := ow) o.pre)
      by_cases hcc : c = true
      · rw [if_pos hcc]
        have ev : vChain f g va vb vc s = (vc s2).bind fun z s3 => opt (g y z) s3 := by simp only [vChain, e1, e2, e, ER.bind, hcc, if_true]
        have nc : vc s2 ≠ .bad := fun z => nb (by rw [ev, z]; rfl)
        refine hc r3 nc _ _ (fun z s4 m4 h4 e4 r4 f4 p4 => ?_) (fun z s4 m4 h4 e4 r4 f4 p4 => kx z s4 m4 h4 (by rw [ev, e4]; rfl) r4 (f3.trans f4) p4)
        cases e5 : g y z with
        | none => exact absurd (by rw [ev, e4]; simp only [ER.bind, e5, opt]) nb
        | some u => exact ho' r4.avs ((p2.fr (Fr.pre' o.pre)).fr f4).toT p4 e5 _ fun m5 h5 o5 => k u s4 m5 h5 (by rw [ev, e4]; simp only [ER.bind, e5, opt]) (r4.pre' o5.pre) ((f3.trans f4).trans (Fr.pre' o5.pre)) o5.rp fun z => by cases z
      · rw [if_neg hcc]
        exact k (.bl false) s2 _ h' (by simp only [vChain, e1, e2, e, ER.bind, if_neg hcc]) r3 f3 rfl fun z => by cases z
    | _ => exact absurd (by simp only [vChain, e1, e2, e, ER.bind]) nb
theorem v_nil : ASim Z own wNil vNil := fun r nb Q E k kx => k [] _ [] _ rfl r Fr.refl rfl
theorem v_cons {wa : MTE} {va : VE} {wr : MTA} {vr : VA} {n1 : Bool} (ha : ESim Z own n1 wa va) (hr : ASim Z own wr vr) : ASim Z own (wCons wa wr) (vCons va vr) := by
  intro A0 ow s sm h r nb Q E k kx
  have na : va s ≠ .bad := fun e => nb (by simp only [vCons, e, ER.bind])
  refine ha r na _ _ (fun x s1 m1 h1 e1 r1 f1 p1 _ => ?_) (fun x s1 m1 h1 e1 r1 f1 p1 => kx x s1 m1 h1 (by simp only [vCons, e1, ER.bind]) r1 f1 p1)
  have nb' : vr s1 ≠ .bad := fun e => nb (by simp only [vCons, e1, e, ER.bind])
  exact hr r1 nb' _ _ (fun y s2 m2 h2 e2 r2 f2 p2 => k (x :: y) s2 _ h2 (by simp only [vCons, e1, e2, ER.bind]) r2 (f1.trans f2) ⟨_, _, rfl, p1.fr f2, p2⟩) (fun y s2 m2 h2 e2 r2 f2 p2 => kx y s2 m2 h2 (by simp only [vCons, e1, e2, ER.bind]) r2 (f1.trans f2) p2)
theorem b_cons {wa : MTE} {va : VE} {wr : MTA} {vr : VA} {n1 : Bool} (ha : ESim Z own n1 wa va) (hr : BASim Z own wr vr) : BASim Z own (wCons wa wr) (vCons va vr) := by
  intro A0 ow s sm h r nb Q E k kx
  have na : va s ≠ .bad := fun e => nb (by simp only [vCons, e, ER.bind])
  refine ha r na _ _ (fun x s1 m1 h1 e1 r1 f1 p1 _ => ?_) (fun x s1 m1 h1 e1 r1 f1 p1 => kx x s1 m1 h1 (by simp only [vCons, e1, ER.bind]) r1 f1 p1)
  have nb' : vr s1 ≠ .bad := fun e => nb (by simp only [vCons, e1, e, ER.bind])
  exact hr r1 nb' _ _ (fun y s2 m2 h2 e2 r2 f2 p2 => k (x :: y) s2 _ h2 (by simp only [vCons, e1, e2, ER.bind]) r2 (f1.trans f2) ⟨_, _, rfl, (p1.fr f2).toT, p2⟩) (fun y s2 m2 h2 e2 r2 f2 p2 => kx y s2 m2 h2 (by simp only [vCons, e1, e2, ER.bind]) r2 (f1.trans f2) p2)
theorem b_consL {i : Nat} {wr : MTA} {vr : VA} (hr : BASim Z own wr vr) : BASim Z own (wCons (wVar i) wr) (vConsL i vr) := by
  intro A0 ow s sm h r nb Q E k kx
  obtain ⟨v0, e0, e0'⟩ := var_ok (s := s) (i := i) fun e => nb (by simp only [vConsL, e, ER.bind])
  obtain ⟨m0, em0, _⟩ := r.slot e0
  refine ⟨m0, em0, ?_⟩
  have nb' : vr s ≠ .bad := fun e => nb (by simp only [vConsL, e0', e, ER.bind])
  refine hr r nb' _ _ (fun y s1 m1 h1 e1 r1 f1 p1 => ?_) (fun y s1 m1 h1 e1 r1 f1 p1 => kx y s1 m1 h1 (by simp only [vConsL, e0', e1, ER.bind]) r1 f1 p1)
  obtain ⟨v, e2, e2'⟩ := var_ok (s := s1) (i := i) fun e => nb (by simp only [vConsL, e0', e1, e, ER.bind])
  obtain ⟨m2, em2, p2⟩ := r1.slot e2
  rw [em0] at em2
  cases em2
  exact k (v :: y) s1 _ h1 (by simp only [vConsL, e0', e1, e2', ER.bind]) r1 f1 ⟨_, _, rfl, p2, p1⟩
theorem v_fn {m : MF} {f : List PV → Option PV} {wa : MTA} {va : VA} (ho : FnSim nw m f) (ha : BASim Z own wa va) : ESim Z own nw (wFn m wa) (vFn f va) := by
  intro A0 ow s sm h r nb Q E k kx
  have na : va s ≠ .bad := fun e => nb (by simp only [vFn, e, ER.bind])
  refine ha r na _ _ (fun x s1 m1 h1 e1 r1 f1 p1 => ?_) (fun x s1 m1 h1 e1 r1 f1 p1 => kx x s1 m1 h1 (by simp only [vFn, e1, ER.bind]) r1 f1 p1)
  cases e : f x with
  | none => exact absurd (by simp only [vFn, e1, e, ER.bind, opt]) nb
  | some v => exact ho r1.avs p1 e _ fun m h' o => k v s1 m h' (by simp only [vFn, e1, e, ER.bind, opt]) (r1.pre' o.pre) (f1.trans (Fr.pre' o.pre)) o.rp (nw_of r1 o f1.len)
theorem out_lst {A : Nat → Prop} {h : MH} {xs : List PV} {ms : List M} (r : Rps A h xs ms) (f : ∀ n, h.length ≤ n → A n) : Out nw A h (.lst xs) (.ref h.length) (h ++ [.lst ms]) :=
  ⟨List.prefix_append _ _, ⟨_, ms, rfl, f _ (Nat.le_refl _), by simp, r.mono fun n o a e => ⟨a, get_pre (List.prefix_append _ _) e⟩⟩, fun _ n e => by cases e; exact ⟨Nat.le_refl _, ms, by simp, r⟩⟩
theorem out_sc {A : Nat → Prop} {h : MH} {x : PV} {m : M} (r : Rp A h x m) (e : ∀ n, m ≠ .ref n) : Out nw A h x m h := ⟨List.prefix_refl _, r, fun _ n em => absurd em (e n)⟩
theorem v_lst {wa : MTA} {va : VA} (ha : ASim Z own wa va) : ESim Z own true (wLst wa) (vLst va) := by
  intro A0 ow s sm h r nb Q E k kx
  have na : va s ≠ .bad := fun e => nb (by simp only [vLst, e, ER.bind])
  refine ha r na _ _ (fun x s1 m1 h1 e1 r1 f1 p1 => ?_) (fun x s1 m1 h1 e1 r1 f1 p1 => kx x s1 m1 h1 (by simp only [vLst, e1, ER.bind]) r1 f1 p1)
  by_cases l : x.length ≤ SZ
  · have o := out_lst (nw := true) p1 r1.avs
    exact ⟨by rw [← p1.length]; exact l, k (.lst x) s1 _ _ (by simp only [vLst, e1, ER.bind, if_pos l]) (r1.pre' o.pre) (f1.trans (Fr.pre' o.pre)) o.rp (nw_of r1 o f1.len)⟩
  · exact absurd (by simp only [vLst, e1, ER.bind, if_neg l]) nb
theorem v_tup {wa : MTA} {va : VA} (ha : ASim Z own wa va) : ESim Z own true (wTup wa) (vTup va) := by
  intro A0 ow s sm h r nb Q E k kx
  have na : va s ≠ .bad := fun e => nb (by simp only [vTup, e, ER.bind])
  refine ha r na _ _ (fun x s1 m1 h1 e1 r1 f1 p1 => ?_) (fun x s1 m1 h1 e1 r1 f1 p1 => kx x s1 m1 h1 (by simp only [vTup, e1, ER.bind]) r1 f1 p1)
  by_cases l : x.length ≤ SZ
  · exact ⟨by rw [← p1.length]; exact l, k (.tup x) s1 _ h1 (by simp only [vTup, e1, ER.bind, if_pos l]) r1 f1 ⟨_, rfl, p1⟩ fun _ n e => by cases e⟩
  · exact absurd (by simp only [vTup, e1, ER.bind, if_neg l]) nb
theorem v_dct0 : ESim Z own true wDct0 vDct0 := by
  intro A0 ow s sm h r nb Q E k kx
  have o : Out true (Av A0 own ow) h (.dct []) (.ref h.length) (h ++ [.dct []]) := ⟨List.prefix_append _ _, ⟨_, [], rfl, r.av (Nat.le_refl _), by simp, rfl⟩, fun _ n e => by cases e; exact ⟨Nat.le_refl _, [], by simp, rfl⟩⟩
  exact k _ s _ _ rfl (r.pre' o.pre) (Fr.pre' o.pre) o.rp (nw_of r o (Nat.le_refl _))
end
end Vn
end
section
set_option maxHeartbeats 1000000
namespace Vn
open PySem PySem.Spec PyProof.Rows L2 Mn

/-! ### arithmetic -/
def vI (g : Int → Int → PV) (x y : PV) : Option PV := match x, y with
  | .int i, .int j => some (g i j)
  | _, _ => none
open Classical in
noncomputable def vIC (C : Int → Int → Prop) (g : Int → Int → PV) (x y : PV) : Option PV := match x, y with
  | .int i, .int j => if C i j then some (g i j) else none
  | _, _ => none
theorem vIC_pos {C : Int → Int → Prop} {g : Int → Int → PV} {i j : Int} (h : C i j) : vIC C g (.int i) (.int j) = some (g i j) := if_pos h
def vSub (x y : PV) : Option PV := match x, y with
  | .int i, .int j => some (.int (i - j))
  | .bl a, .bl b => some (.int ((if a = true then 1 else 0) - (if b = true then 1 else 0)))
  | _, _ => none
def vSubI := vI fun i j => .int (i - j)
noncomputable def vFdiv := vIC (fun _ j => j ≠ 0 ∧ j.natAbs.log2 < 9000) fun i j => .int (i.fdiv j)
noncomputable def vMod := vIC (fun _ j => j ≠ 0) fun i j => .int (i.fmod j)
noncomputable def vPow := vIC PowOk fun i j => .int (i ^ j.toNat)
noncomputable def vShl := vIC CShl fun i j => .int (i * 2 ^ j.toNat)
noncomputable def vShr := vIC (fun _ j => 0 ≤ j) fun i j => .int (i / 2 ^ j.toNat)
def vAnd := vI fun i j => .int (Builtin.bitAnd i j)
def vLt := vI fun i j => .bl (decide (i < j))
def vLe := vI fun i j => .bl (decide (i ≤ j))
def vGt := vI fun i j => .bl (decide (j < i))
def vGe := vI fun i j => .bl (decide (j ≤ i))
def vAddI := vI fun i j => .int (i + j)
noncomputable def vMulI := vIC BitsOk fun i j => .int (i * j)
def vAdd (x y : PV) : Option PV := match x, y with
  | .int i, .int j => some (.int (i + j))
  | .lst xs, .lst ys => if xs.length + ys.length ≤ SZ then some (.lst (xs ++ ys)) else none
  | .tup xs, .tup ys => if xs.length + ys.length ≤ SZ then some (.tup (xs ++ ys)) else none
  | .str a, .str b => if a.length + b.length ≤ SZ then some (.str (a ++ b)) else none
  | _, _ => none
open Classical in
noncomputable def vMul (x y : PV) : Option PV := match x, y with
  | .int i, .int j => if BitsOk i j then some (.int (i * j)) else none
  | .lst xs, .int k => if -(2 ^ 63) ≤ k ∧ k < 2 ^ 63 ∧ xs.length * k.toNat ≤ SZ then some (.lst (List.replicate k.toNat xs).flatten) else none
  | .tup xs, .int k => if -(2 ^ 63) ≤ k ∧ k ≤ 1000 ∧ xs.length ≤ 1000 then some (.tup (List.replicate k.toNat xs).flatten) else none
  | _, _ => none
def vNeg (x : PV) : Option PV := match x with
  | .int i => some (.int (-i))
  | _ => none
section
variable {nw : Bool}
theorem o_I {C : Int → Int → Prop} {g : Int → Int → M} {g' : Int → Int → PV} (hc : ∀ i j, C i j) (hg : ∀ A h i j, Rp A h (g' i j) (g i j)) (hr : ∀ i j n, g i j ≠ .ref n) : OpSim nw (mI C g) (vI g') := by
  intro A h x y mx my v f rx ry e Q k
  unfold vI at e
  split at e
  · cases e; cases rx; cases ry
    exact ⟨hc _ _, k _ _ (out_sc (hg _ _ _ _) (hr _ _))⟩
  · cases e
theorem o_IC {C : Int → Int → Prop} {g : Int → Int → M} {g' : Int → Int → PV} (hg : ∀ A h i j, Rp A h (g' i j) (g i j)) (hr : ∀ i j n, g i j ≠ .ref n) : OpSim nw (mI C g) (vIC C g') := by
  intro A h x y mx my v f rx ry e Q k
  unfold vIC at e
  split at e
  · split at e
    · rename_i hc
      cases e; cases rx; cases ry
      exact ⟨hc, k _ _ (out_sc (hg _ _ _ _) (hr _ _))⟩
    · cases e
  · cases e
theorem o_sub : OpSim nw mSubA vSub := by
  intro A h x y mx my v f rx ry e Q k
  unfold vSub at e
  split at e
  · cases e; cases rx; cases ry
    exact k _ _ (out_sc rfl fun n e => by cases e)
  · cases e; cases rx; cases ry
    exact k _ _ (out_sc rfl fun n e => by cases e)
  · cases e
theorem o_subI : OpSim nw mSub vSubI := by
  apply o_I
  · intros; trivial
  · intros; rfl
  · intro _ _ _ e; cases e
theorem o_fdiv : OpSim nw mFdiv vFdiv := by
  apply o_IC
  · intros; rfl
  · intro _ _ _ e; cases e
theorem o_mod : OpSim nw mMod vMod := by
  apply o_IC
  · intros; rfl
  · intro _ _ _ e; cases e
theorem o_pow : OpSim nw mPow vPow := by
  apply o_IC
  · intros; rfl
  · intro _ _ _ e; cases e
theorem o_shl : OpSim nw mShl vShl := by
  apply o_IC
  · intros; rfl
  · intro _ _ _ e; cases e
theorem o_shr : OpSim nw mShr vShr := by
  apply o_IC
  · intros; rfl
  · intro _ _ _ e; cases e
theorem o_and : OpSim nw mAnd vAnd := by
  apply o_I
  · intros; trivial
  · intros; rfl
  · intro _ _ _ e; cases e
theorem o_lt : OpSim nw mLt vLt := by
  apply o_I
  · intros; trivial
  · intros; rfl
  · intro _ _ _ e; cases e
theorem o_le : OpSim nw mLe vLe := by
  apply o_I
  · intros; trivial
  · intros; rfl
  · intro _ _ _ e; cases e
theorem o_gt : OpSim nw mGt vGt := by
  apply o_I
  · intros; trivial
  · intros; rfl
  · intro _ _ _ e; cases e
theorem o_ge : OpSim nw mGe vGe := by
  apply o_I
  · intros; trivial
  · intros; rfl
  · intro _ _ _ e; cases e
theorem o_addI : OpSim nw mAddI vAddI := by
  apply o_I
  · intros; trivial
  · intros; rfl
  · intro _ _ _ e; cases e
theorem o_mulI : OpSim nw mMulI vMulI := by
  apply o_IC
  · intros; rfl
  · intro _ _ _ e; cases e
theorem o_add : OpSim nw mAdd vAdd := by
  intro A h x y mx my v f rx ry e Q k
  unfold vAdd at e
  split at e
  · cases e; cases rx; cases ry
    exact k _ _ (out_sc rfl fun n e => by cases e)
  · split at e
    · rename_i hl
      cases e
      obtain ⟨n, ms, rfl, g1, r1⟩ := rx
      obtain ⟨n2, ns, rfl, g2, r2⟩ := ry
      exact ⟨ms, ns, g1, g2, by rw [← r1.length, ← r2.length]; exact hl, k _ _ (out_lst (r1.append r2) f)⟩
    · cases e
  · split at e
    · rename_i hl
      cases e
      obtain ⟨ms, rfl, r1⟩ := rx
      obtain ⟨ns, rfl, r2⟩ := ry
      exact ⟨by rw [← r1.length, ← r2.length]; exact hl, k _ _ (out_sc ⟨_, rfl, r1.append r2⟩ fun n e => by cases e)⟩
    · cases e
  · split at e
    · rename_i hl
      cases e; cases rx; cases ry
      exact ⟨hl, k _ _ (out_sc rfl fun n e => by cases e)⟩
    · cases e
  · cases e
theorem o_mul : OpSim nw mMul vMul := by
  intro A h x y mx my v f rx ry e Q k
  unfold vMul at e
  split at e
  · split at e
    · rename_i hc
      cases e; cases rx; cases ry
      exact ⟨hc, k _ _ (out_sc rfl fun n e => by cases e)⟩
    · cases e
  · split at e
    · rename_i hl
      cases e
      obtain ⟨n, ms, rfl, g1, r1⟩ := rx
      cases ry
      exact ⟨ms, g1, hl.1, hl.2.1, by rw [← r1.length]; exact hl.2.2, k _ _ (out_lst (r1.rep _) f)⟩
    · cases e
  · split at e
    · rename_i hl
      cases e
      obtain ⟨ms, rfl, r1⟩ := rx
      cases ry
      exact ⟨hl.1, hl.2.1, by rw [← r1.length]; exact hl.2.2, k _ _ (out_sc ⟨_, rfl, r1.rep _⟩ fun n e => by cases e)⟩
    · cases e
  · cases e
theorem u_neg : UnSim nw mNeg vNeg := by
  intro A h x mx v f rx e Q k
  unfold vNeg at e
  split at e
  · cases e; cases rx
    exact k _ _ (out_sc rfl fun n e => by cases e)
  · cases e
end

/-! ### data -/
def pdVL (g : PV → Option PyData) : List PV → Option (List PyData)
  | [] => some []
  | x :: xs => match g x, pdVL g xs with
    | some d, some ds => some (d :: ds)
    | _, _ => none
def pdV : Nat → PV → Option PyData
  | _, .non => some .none
  | _, .bl b => some (.bool b)
  | _, .int i => some (.int i)
  | _, .str s => some (.str s)
  | n + 1, .tup xs => (pdVL (pdV n) xs).map .tuple
  | n + 1, .lst xs => (pdVL (pdV n) xs).map .list
  | _ + 1, .dct [] => some (.dict [])
  | _, _ => none
theorem pdVL_cons {g : PV → Option PyData} {x : PV} {xs : List PV} {ds : List PyData} (h : pdVL g (x :: xs) = some ds) : ∃ d r, ds = d :: r ∧ g x = some d ∧ pdVL g xs = some r := by
  unfold pdVL at h
  split at h
  · rename_i d r h1 h2
    exact ⟨d, r, (Option.some.inj h).symm, h1, h2⟩
  · cases h
theorem pd_of {A : Nat → Prop} {h : MH} : ∀ (n : Nat) (x : PV) (m : M) (d : PyData), pdV n x = some d → RpT A h x m → pd h n m = some d := by
  have all : ∀ n : Nat, (∀ (x : PV) (m : M) (d : PyData), pdV n x = some d → RpT A h x m → pd h n m = some d) → ∀ (xs : List PV) (ms : List M) (ds : List PyData), pdVL (pdV n) xs = some ds → Rps A h xs ms → pdL (pd h n) ms = some ds := by
    intro n ih xs
    induction xs with
    | nil => intro ms ds e r; cases r; exact e
    | cons x xs ihx =>
      intro ms ds e r
      obtain ⟨m, t, rfl, ra, rb⟩ := r
      obtain ⟨d, rd, rfl, h1, h2⟩ := pdVL_cons e
      unfold pdL
      rw [ih x m d h1 ra.toT, ihx t rd h2 rb]
  intro n
  induction n with
  | zero =>
    intro x m d e r
    cases x with
    | non => cases r; exact e
    | bl b => cases r; exact e
    | int i => cases r; exact e
    | str s => cases r; exact e
    | _ => simp [pdV] at e
  | succ n ih =>
    intro x m d e r
    cases x with
    | non => cases r; exact e
    | bl b => cases r; exact e
    | int i => cases r; exact e
    | str s => cases r; exact e
    | tup xs =>
      obtain ⟨ms, rfl, r⟩ := r
      have e : (pdVL (pdV n) xs).map PyData.tuple = some d := e
      obtain ⟨ds, h1, rfl⟩ := Option.map_eq_some_iff.mp e
      show (pdL (pd h n) ms).map PyData.tuple = _
      rw [all n ih xs ms ds h1 r]; rfl
    | lst xs =>
      obtain ⟨k, ms, rfl, g, r⟩ := r
      have e : (pdVL (pdV n) xs).map PyData.list = some d := e
      obtain ⟨ds, h1, rfl⟩ := Option.map_eq_some_iff.mp e
      show (match h[k]? with | some (.lst xs) => (pdL (pd h n) xs).map PyData.list | some (.dct []) => some (.dict []) | _ => none) = some _
      rw [g]
      show (pdL (pd h n) ms).map PyData.list = _
      rw [all n ih xs ms ds h1 r]; rfl
    | dct ks =>
      obtain ⟨k, ms, rfl, g, r⟩ := r
      cases ks with
      | nil =>
        cases r
        show (match h[k]? with | some (.lst xs) => (pdL (pd h n) xs).map PyData.list | some (.dct []) => some (.dict []) | _ => none) = some _
        rw [g]; exact e
      | cons => cases e
    | _ => cases e
def eqD (neg : Bool) (x y : PV) : Option PV := match pdV 60 x, pdV 60 y with
  | some d, some e => if SeqAt.shaped d = true ∧ SeqAt.shaped e = true then some (.bl (if neg then !PyData.eqv d e else PyData.eqv d e)) else none
  | _, _ => none
def vEq (x y : PV) : Option PV := match x, y with
  | .int i, .int j => some (.bl (i == j))
  | .bl a, .bl b => some (.bl (a == b))
  | .str a, .str b => some (.bl (a == b))
  | x, y => eqD false x y
def vNe (x y : PV) : Option PV := match x, y with
  | .int i, .int j => some (.bl (!(i == j)))
  | .bl a, .bl b => some (.bl (!(a == b)))
  | .str a, .str b => some (.bl (!(a == b)))
  | x, y => eqD true x y
theorem eqD_ok {neg : Bool} {A : Nat → Prop} {h : MH} {x y : PV} {mx my : M} {v : PV} (rx : RpT A h x mx) (ry : RpT A h y my) (e : eqD neg x y = some v) {nw : Bool} {Q : KM} (k : ∀ m' h', Out nw A h v m' h' → Q m' h') : mEqG neg mx my h Q := by
  unfold eqD at e
  split at e
  · rename_i d e' h1 h2
    split at e
    · rename_i hs
      cases e
      exact ⟨d, e', pd_of 60 x mx d h1 rx, pd_of 60 y my e' h2 ry, hs.1, hs.2, k _ _ (out_sc rfl fun n e => by cases e)⟩
    · cases e
  · cases e
theorem o_eq {nw : Bool} : OpSim nw mEq vEq := by
  intro A h x y mx my v f rx ry e Q k
  unfold vEq at e
  split at e
  · cases e; cases rx; cases ry
    exact k _ _ (out_sc rfl fun n e => by cases e)
  · cases e; cases rx; cases ry
    exact k _ _ (out_sc rfl fun n e => by cases e)
  · cases e; cases rx; cases ry
    exact k _ _ (out_sc rfl fun n e => by cases e)
  · rename_i n1 n2 n3
    have q := eqD_ok rx ry e (nw := nw) k
    unfold mEq
    split
    · cases x <;> simp [RpT, Rp] at rx <;> cases y <;> simp [RpT, Rp] at ry
      all_goals first
        | exact absurd rfl (n1 _ _ rfl)
        | (simp [eqD, pdV] at e; done)
    · cases x <;> simp [RpT, Rp] at rx <;> cases y <;> simp [RpT, Rp] at ry
      all_goals first
        | exact absurd rfl (n2 _ _ rfl)
        | (simp [eqD, pdV] at e; done)
    · cases x <;> simp [RpT, Rp] at rx <;> cases y <;> simp [RpT, Rp] at ry
      all_goals first
        | exact absurd rfl (n3 _ _ rfl)
        | (simp [eqD, pdV] at e; done)
    · exact q
theorem o_ne {nw : Bool} : OpSim nw mNe vNe := by
  intro A h x y mx my v f rx ry e Q k
  unfold vNe at e
  split at e
  · cases e; cases rx; cases ry
    exact k _ _ (out_sc rfl fun n e => by cases e)
  · cases e; cases rx; cases ry
    exact k _ _ (out_sc rfl fun n e => by cases e)
  · cases e; cases rx; cases ry
    exact k _ _ (out_sc rfl fun n e => by cases e)
  · rename_i n1 n2 n3
    have q := eqD_ok rx ry e (nw := nw) k
    unfold mNe
    split
    · cases x <;> simp [RpT, Rp] at rx <;> cases y <;> simp [RpT, Rp] at ry
      all_goals first
        | exact absurd rfl (n1 _ _ rfl)
        | (simp [eqD, pdV] at e; done)
    · cases x <;> simp [RpT, Rp] at rx <;> cases y <;> simp [RpT, Rp] at ry
      all_goals first
        | exact absurd rfl (n2 _ _ rfl)
        | (simp [eqD, pdV] at e; done)
    · cases x <;> simp [RpT, Rp] at rx <;> cases y <;> simp [RpT, Rp] at ry
      all_goals first
        | exact absurd rfl (n3 _ _ rfl)
        | (simp [eqD, pdV] at e; done)
    · exact q
def isNonV : PV → Bool
  | .non => true
  | _ => false
def isOpq : PV → Bool
  | .opq _ => true
  | _ => false
def vIs (x y : PV) : Option PV := match y with
  | .non => if isOpq x = true then none else some (.bl (isNonV x))
  | _ => none
def vIsNot (x y : PV) : Option PV := match y with
  | .non => if isOpq x = true then none else some (.bl (!isNonV x))
  | _ => none
theorem isNon_rp {A : Nat → Prop} {h : MH} {x : PV} {m : M} (r : RpT A h x m) (ho : isOpq x ≠ true) : Mn.isNon m = isNonV x := by
  cases x with
  | tup => obtain ⟨ms, rfl, _⟩ := r; rfl
  | lst => obtain ⟨n, ms, rfl, _⟩ := r; rfl
  | rol => obtain ⟨n, ms, rfl, _⟩ := r; rfl
  | dct => obtain ⟨n, ms, rfl, _⟩ := r; rfl
  | exc => obtain ⟨ms, rfl, _⟩ := r; rfl
  | opq => exact absurd rfl ho
  | _ => cases r; rfl
theorem o_is {nw : Bool} : OpSim nw mIs vIs := by
  intro A h x y mx my v f rx ry e Q k
  unfold vIs at e
  split at e
  · split at e
    · cases e
    · rename_i ho
      cases e; cases ry
      show Q (.bl (Mn.isNon mx)) h
      rw [isNon_rp rx ho]
      exact k _ _ (out_sc rfl fun n e => by cases e)
  · cases e
theorem o_isNot {nw : Bool} : OpSim nw mIsNot vIsNot := by
  intro A h x y mx my v f rx ry e Q k
  unfold vIsNot at e
  split at e
  · split at e
    · cases e
    · rename_i ho
      cases e; cases ry
      show Q (.bl (!Mn.isNon mx)) h
      rw [isNon_rp rx ho]
      exact k _ _ (out_sc rfl fun n e => by cases e)
  · cases e
def itemsV : PV → Option (List PV)
  | .tup xs => some xs
  | .lst xs => some xs
  | .rol xs => some xs
  | _ => none
theorem items_of {A : Nat → Prop} {h : MH} {x : PV} {m : M} {xs : List PV} (r : RpT A h x m) (e : itemsV x = some xs) : ∃ ms, itemsM h m = some ms ∧ Rps A h xs ms := by
  cases x with
  | tup ys => cases e; obtain ⟨ms, rfl, q⟩ := r; exact ⟨ms, rfl, q⟩
  | lst ys => cases e; obtain ⟨n, ms, rfl, g, q⟩ := r; exact ⟨ms, by simp only [itemsM, g], q⟩
  | rol ys => cases e; obtain ⟨n, ms, rfl, g, q⟩ := r; exact ⟨ms, by simp only [itemsM, g], q⟩
  | _ => cases e
def vIx (x y : PV) : Option PV := match itemsV x, y with
  | some xs, .int i => atI xs i
  | _, _ => none
theorem Rps.atI {A : Nat → Prop} {h : MH} {xs : List PV} {ms : List M} {i : Int} {x : PV} (r : Rps A h xs ms) (e : atI xs i = some x) : ∃ m, L2.atI ms i = some m ∧ Rp A h x m := by
  unfold L2.atI at e ⊢
  rw [← r.length]
  cases q : ixN xs.length i with
  | none => rw [q] at e; cases e
  | some j =>
    rw [q] at e
    exact r.get e
theorem o_ix : OpSim false mIx vIx := by
  intro A h x y mx my v f rx ry e Q k
  unfold vIx at e
  split at e
  · rename_i xs i h1
    obtain ⟨ms, hm, r⟩ := items_of rx h1
    obtain ⟨m, e1, r1⟩ := r.atI e
    cases ry
    exact ⟨ms, i, m, hm, rfl, e1, k _ _ ⟨List.prefix_refl _, r1, fun z => by cases z⟩⟩
  · cases e
def flatV : PV → Bool
  | .non => true
  | .bl _ => true
  | .int _ => true
  | .str _ => true
  | _ => false
def eqVV : PV → PV → Bool
  | .non, .non => true
  | .bl a, .bl b => a == b
  | .bl a, .int b => (if a then 1 else 0) == b
  | .int a, .bl b => a == (if b then 1 else 0)
  | .int a, .int b => a == b
  | .str a, .str b => a == b
  | _, _ => false
def flM : PV → M
  | .bl b => .bl b
  | .int i => .int i
  | .str s => .str s
  | _ => .non
theorem flat_rp {A : Nat → Prop} {h : MH} {x : PV} {m : M} (r : RpT A h x m) (e : flatV x = true) : m = flM x ∧ flatM m = true := by
  cases x <;> simp [flatV] at e <;> cases r <;> exact ⟨rfl, rfl⟩
theorem eqV_rp {A : Nat → Prop} {h : MH} {x y : PV} {m n : M} (rx : RpT A h x m) (ry : RpT A h y n) (e : flatV x = true) (e' : flatV y = true) : eqM m n = eqVV x y := by
  rw [(flat_rp rx e).1, (flat_rp ry e').1]
  cases x <;> simp [flatV] at e <;> cases y <;> simp [flatV] at e' <;> rfl
theorem flats_rp {A : Nat → Prop} {h : MH} : ∀ {xs : List PV} {ms : List M}, Rps A h xs ms → xs.all flatV = true → ms.all flatM = true
  | [], _, r, _ => by cases r; rfl
  | _ :: _, _, ⟨m, t, e, a, b⟩, q => by
    subst e
    rw [List.all_cons, Bool.and_eq_true] at q ⊢
    exact ⟨(flat_rp a.toT q.1).2, flats_rp b q.2⟩
theorem any_rp {A : Nat → Prop} {h : MH} {y : PV} {n : M} (ry : RpT A h y n) (fy : flatV y = true) : ∀ {xs : List PV} {ms : List M}, Rps A h xs ms → xs.all flatV = true → ms.any (fun z => eqM z n) = xs.any fun z => eqVV z y
  | [], _, r, _ => by cases r; rfl
  | _ :: _, _, ⟨m, t, e, a, b⟩, q => by
    subst e
    rw [List.all_cons, Bool.and_eq_true] at q
    rw [List.any_cons, List.any_cons, eqV_rp a.toT ry q.1 fy, any_rp ry fy b q.2]
theorem count_rp {A : Nat → Prop} {h : MH} {y : PV} {n : M} (ry : RpT A h y n) (fy : flatV y = true) : ∀ {xs : List PV} {ms : List M}, Rps A h xs ms → xs.all flatV = true → ms.countP (fun z => eqM z n) = xs.countP fun z => eqVV z y
  | [], _, r, _ => by cases r; rfl
  | _ :: _, _, ⟨m, t, e, a, b⟩, q => by
    subst e
    rw [List.all_cons, Bool.and_eq_true] at q
    rw [List.countP_cons, List.countP_cons, eqV_rp a.toT ry q.1 fy, count_rp ry fy b q.2]
def vIn (neg : Bool) (x y : PV) : Option PV := match itemsV y with
  | some xs => if flatV x = true ∧ xs.all flatV = true then some (.bl (if neg then !xs.any (fun z => eqVV z x) else xs.any (fun z => eqVV z x))) else none
  | none => none
theorem o_in {neg nw : Bool} : OpSim nw (mIn neg) (vIn neg) := by
  intro A h x y mx my v f rx ry e Q k
  unfold vIn at e
  split at e
  · rename_i xs h1
    split at e
    · rename_i hf
      cases e
      obtain ⟨ms, hm, r⟩ := items_of ry h1
      refine ⟨ms, hm, (flat_rp rx hf.1).2, flats_rp r hf.2, ?_⟩
      rw [any_rp rx hf.1 r hf.2]
      exact k _ _ (out_sc rfl fun n e => by cases e)
    · cases e
  · cases e

/-! ### built-ins -/
def f1 (g : PV → Option PV) (xs : List PV) : Option PV := match xs with
  | [x] => g x
  | _ => none
theorem RpTs.one {A : Nat → Prop} {h : MH} {x : PV} {ms : List M} (r : RpTs A h [x] ms) : ∃ m, ms = [m] ∧ RpT A h x m := by
  obtain ⟨m, t, rfl, a, b⟩ := r
  cases b
  exact ⟨m, rfl, a⟩
theorem RpTs.two {A : Nat → Prop} {h : MH} {x y : PV} {ms : List M} (r : RpTs A h [x, y] ms) : ∃ m n, ms = [m, n] ∧ RpT A h x m ∧ RpT A h y n := by
  obtain ⟨m, t, rfl, a, b⟩ := r
  obtain ⟨n, rfl, c⟩ := RpTs.one b
  exact ⟨m, n, rfl, a, c⟩
def lenV : PV → Option PV
  | .str s => if s.length ≤ SZ then some (.int s.length) else none
  | .tup xs => some (.int xs.length)
  | .lst xs => some (.int xs.length)
  | .rol xs => some (.int xs.length)
  | _ => none
def absV : PV → Option PV
  | .int i => some (.int (if i < 0 then -i else i))
  | _ => none
def intV : PV → Option PV
  | .int i => some (.int i)
  | .bl b => some (.int (if b then 1 else 0))
  | _ => none
def listV (x : PV) : Option PV := (itemsV x).map .lst
def tupleV (x : PV) : Option PV := (itemsV x).map .tup
def intsV : List PV → Option (List Int)
  | [] => some []
  | .int i :: r => (intsV r).map (i :: ·)
  | _ :: _ => none
theorem intsV_map : ∀ is : List Int, intsV (is.map PV.int) = some is
  | [] => rfl
  | i :: r => by show (intsV (r.map PV.int)).map (i :: ·) = _; rw [intsV_map r]; rfl
theorem intsV_of : ∀ {xs : List PV} {is : List Int}, intsV xs = some is → xs = is.map PV.int
  | [], _, e => by cases e; rfl
  | .int i :: r, _, e => by
    have e : (intsV r).map (i :: ·) = some _ := e
    obtain ⟨is, h1, rfl⟩ := Option.map_eq_some_iff.mp e
    rw [intsV_of h1]; rfl
  | .non :: _, _, e => by cases e
  | .bl _ :: _, _, e => by cases e
  | .str _ :: _, _, e => by cases e
  | .tup _ :: _, _, e => by cases e
  | .lst _ :: _, _, e => by cases e
  | .rol _ :: _, _, e => by cases e
  | .dct _ :: _, _, e => by cases e
  | .glo _ :: _, _, e => by cases e
  | .exc _ _ _ :: _, _, e => by cases e
  | .ty _ :: _, _, e => by cases e
  | .opq _ :: _, _, e => by cases e
def blsV : List PV → Option (List Bool)
  | [] => some []
  | .bl i :: r => (blsV r).map (i :: ·)
  | _ :: _ => none
theorem blsV_map : ∀ is : List Bool, blsV (is.map PV.bl) = some is
  | [] => rfl
  | i :: r => by show (blsV (r.map PV.bl)).map (i :: ·) = _; rw [blsV_map r]; rfl
theorem blsV_of : ∀ {xs : List PV} {is : List Bool}, blsV xs = some is → xs = is.map PV.bl
  | [], _, e => by cases e; rfl
  | .bl i :: r, _, e => by
    have e : (blsV r).map (i :: ·) = some _ := e
    obtain ⟨is, h1, rfl⟩ := Option.map_eq_some_iff.mp e
    rw [blsV_of h1]; rfl
  | .non :: _, _, e => by cases e
  | .int _ :: _, _, e => by cases e
  | .str _ :: _, _, e => by cases e
  | .tup _ :: _, _, e => by cases e
  | .lst _ :: _, _, e => by cases e
  | .rol _ :: _, _, e => by cases e
  | .dct _ :: _, _, e => by cases e
  | .glo _ :: _, _, e => by cases e
  | .exc _ _ _ :: _, _, e => by cases e
  | .ty _ :: _, _, e => by cases e
  | .opq _ :: _, _, e => by cases e
def refItems : PV → Option (List PV)
  | .lst xs => some xs
  | .rol xs => some xs
  | _ => none
theorem ref_items {A : Nat → Prop} {h : MH} {x : PV} {m : M} {xs : List PV} (r : RpT A h x m) (e : refItems x = some xs) : ∃ n ms, m = .ref n ∧ itemsM h (.ref n) = some ms ∧ Rps A h xs ms := by
  cases x with
  | lst ys => cases e; obtain ⟨n, ms, rfl, g, q⟩ := r; exact ⟨n, ms, rfl, by simp only [itemsM, g], q⟩
  | rol ys => cases e; obtain ⟨n, ms, rfl, g, q⟩ := r; exact ⟨n, ms, rfl, by simp only [itemsM, g], q⟩
  | _ => cases e
def insI (a : Int) : List Int → List Int
  | [] => [a]
  | b :: r => if a ≤ b then a :: b :: r else b :: insI a r
def isort : List Int → List Int
  | [] => []
  | a :: r => insI a (isort r)
def maxI : List Int → Int
  | [] => 0
  | [a] => a
  | a :: r => if maxI r < a then a else maxI r
def minI : List Int → Int
  | [] => 0
  | [a] => a
  | a :: r => if a < minI r then a else minI r
def sumV (x : PV) : Option PV := (refItems x).bind fun xs => (intsV xs).map fun is => .int is.sum
def maxV (x : PV) : Option PV := (refItems x).bind fun xs => (intsV xs).bind fun is => if is = [] then none else some (.int (maxI is))
def minV (x : PV) : Option PV := (refItems x).bind fun xs => (intsV xs).bind fun is => if is = [] then none else some (.int (minI is))
def sortV (x : PV) : Option PV := (refItems x).bind fun xs => (intsV xs).map fun is => .lst ((isort is).map .int)
def anyV (x : PV) : Option PV := (refItems x).bind fun xs => (blsV xs).map fun bs => .bl (bs.any id)
def allV (x : PV) : Option PV := (refItems x).bind fun xs => (blsV xs).map fun bs => .bl (bs.all id)
open Classical in
noncomputable def repV (x : PV) : Option PV := match pdV 60 x with
  | some d => if RepOk d then some (.str d.shown) else none
  | none => none
def f2I (g : Int → Int → Int) (xs : List PV) : Option PV := match xs with
  | [.int i, .int j] => some (.int (g i j))
  | _ => none
def vMin2 := f2I fun i j => if j < i then j else i
def vMax2 := f2I fun i j => if j > i then j else i
theorem insI_perm (a : Int) : ∀ l : List Int, (insI a l).Perm (a :: l)
  | [] => List.Perm.refl _
  | b :: r => by
    unfold insI
    split
    · exact List.Perm.refl _
    · exact ((insI_perm a r).cons b).trans (List.Perm.swap a b r)
theorem isort_perm : ∀ l : List Int, (isort l).Perm l
  | [] => List.Perm.refl _
  | a :: r => (insI_perm a _).trans ((isort_perm r).cons a)
theorem insI_sorted (a : Int) : ∀ l : List Int, l.Pairwise (· ≤ ·) → (insI a l).Pairwise (· ≤ ·)
  | [], _ => by simp [insI]
  | b :: r, h => by
    obtain ⟨h1, h2⟩ := List.pairwise_cons.mp h
    unfold insI
    split
    · rename_i hab
      refine List.pairwise_cons.mpr ⟨fun x hx => ?_, h⟩
      rcases List.mem_cons.mp hx with rfl | hx
      · exact hab
      · exact Int.le_trans hab (h1 x hx)
    · rename_i hab
      refine List.pairwise_cons.mpr ⟨fun x hx => ?_, insI_sorted a r h2⟩
      rcases List.mem_cons.mp ((insI_perm a r).mem_iff.mp hx) with rfl | hx
      · omega
      · exact h1 x hx
theorem isort_sorted : ∀ l : List Int, (isort l).Pairwise (· ≤ ·)
  | [] => List.Pairwise.nil
  | a :: r => insI_sorted a _ (isort_sorted r)
theorem sorted_unique : ∀ {l k : List Int}, l.Perm k → l.Pairwise (· ≤ ·) → k.Pairwise (· ≤ ·) → l = k
  | [], k, p, _, _ => (List.Perm.nil_eq p)
  | a :: l, [], p, _, _ => (List.Perm.eq_nil p)
  | a :: l, b :: k, p, h1, h2 => by
    obtain ⟨a1, a2⟩ := List.pairwise_cons.mp h1
    obtain ⟨b1, b2⟩ := List.pairwise_cons.mp h2
    have e : a = b := by
      have hb : b ∈ a :: l := p.mem_iff.mpr List.mem_cons_self
      have ha : a ∈ b :: k := p.mem_iff.mp List.mem_cons_self
      rcases List.mem_cons.mp hb with hb | hb
      · exact hb.symm
      · rcases List.mem_cons.mp ha with ha | ha
        · exact ha
        · exact Int.le_antisymm (a1 b hb) (b1 a ha)
    subst e
    rw [sorted_unique (List.Perm.cons_inv p) a2 b2]
theorem maxI_ok : ∀ l : List Int, l ≠ [] → maxI l ∈ l ∧ ∀ y ∈ l, y ≤ maxI l
  | [], h => absurd rfl h
  | [a], _ => ⟨by simp [maxI], by simp [maxI]⟩
  | a :: b :: r, _ => by
    obtain ⟨h1, h2⟩ := maxI_ok (b :: r) (by simp)
    show (if maxI (b :: r) < a then a else maxI (b :: r)) ∈ _ ∧ ∀ y ∈ _, y ≤ (if maxI (b :: r) < a then a else maxI (b :: r))
    split
    · rename_i h
      refine ⟨by simp, fun y hy => ?_⟩
      rcases List.mem_cons.mp hy with rfl | hy
      · exact Int.le_refl _
      · exact Int.le_trans (h2 y hy) (Int.le_of_lt h)
    · rename_i h
      refine ⟨List.mem_cons_of_mem _ h1, fun y hy => ?_⟩
      rcases List.mem_cons.mp hy with rfl | hy
      · omega
      · exact h2 y hy
theorem minI_ok : ∀ l : List Int, l ≠ [] → minI l ∈ l ∧ ∀ y ∈ l, minI l ≤ y
  | [], h => absurd rfl h
  | [a], _ => ⟨by simp [minI], by simp [minI]⟩
  | a :: b :: r, _ => by
    obtain ⟨h1, h2⟩ := minI_ok (b :: r) (by simp)
    show (if a < minI (b :: r) then a else minI (b :: r)) ∈ _ ∧ ∀ y ∈ _, (if a < minI (b :: r) then a else minI (b :: r)) ≤ y
    split
    · rename_i h
      refine ⟨by simp, fun y hy => ?_⟩
      rcases List.mem_cons.mp hy with rfl | hy
      · exact Int.le_refl _
      · exact Int.le_trans (Int.le_of_lt h) (h2 y hy)
    · rename_i h
      refine ⟨List.mem_cons_of_mem _ h1, fun y hy => ?_⟩
      rcases List.mem_cons.mp hy with rfl | hy
      · omega
      · exact h2 y hy
section
variable {nw : Bool}
theorem FnSim.f1 {m : MF} {g : PV → Option PV} (H : ∀ {A : Nat → Prop} {h : MH} {x : PV} {mx : M} {v : PV}, (∀ n, h.length ≤ n → A n) → RpT A h x mx → g x = some v → ∀ Q : KM, (∀ m' h', Out nw A h v m' h' → Q m' h') → m [mx] h Q) : FnSim nw m (f1 g) := by
  intro A h xs ms v f r e Q k
  unfold Vn.f1 at e
  split at e
  · obtain ⟨m, rfl, r1⟩ := r.one
    exact H f r1 e Q k
  · cases e
theorem n_len : FnSim nw fLen (f1 lenV) := FnSim.f1 fun {A h x mx v} f r e Q k => by
  unfold lenV at e
  split at e
  · rename_i s
    split at e
    · rename_i hl
      cases e; cases r
      exact ⟨_, s.length, rfl, if_pos hl, k _ _ (out_sc rfl fun n e => by cases e)⟩
    · cases e
  · cases e
    obtain ⟨ms, rfl, r⟩ := r
    exact ⟨_, _, rfl, rfl, k _ _ (out_sc (by rw [← r.length]; rfl) fun n e => by cases e)⟩
  · cases e
    obtain ⟨n, ms, rfl, g, r⟩ := r
    exact ⟨_, ms.length, rfl, by simp only [lenM, itemsM, g, Option.map], k _ _ (out_sc (by rw [← r.length]; rfl) fun n e => by cases e)⟩
  · cases e
    obtain ⟨n, ms, rfl, g, r⟩ := r
    exact ⟨_, ms.length, rfl, by simp only [lenM, itemsM, g, Option.map], k _ _ (out_sc (by rw [← r.length]; rfl) fun n e => by cases e)⟩
  · cases e
theorem n_abs : FnSim nw fAbs (f1 absV) := FnSim.f1 fun {A h x mx v} f r e Q k => by
  unfold absV at e
  split at e
  · cases e; cases r
    exact ⟨_, rfl, k _ _ (out_sc rfl fun n e => by cases e)⟩
  · cases e
theorem n_int : FnSim nw fInt (f1 intV) := FnSim.f1 fun {A h x mx v} f r e Q k => by
  unfold intV at e
  split at e
  · cases e; cases r
    exact .inl ⟨_, rfl, k _ _ (out_sc rfl fun n e => by cases e)⟩
  · cases e; cases r
    exact .inr ⟨_, rfl, k _ _ (out_sc rfl fun n e => by cases e)⟩
  · cases e
theorem n_list : FnSim nw fList (f1 listV) := FnSim.f1 fun {A h x mx v} f r e Q k => by
  obtain ⟨xs, h1, rfl⟩ := Option.map_eq_some_iff.mp e
  obtain ⟨ms, e1, r1⟩ := items_of r h1
  exact ⟨_, ms, rfl, e1, k _ _ (out_lst r1 f)⟩
theorem n_tuple : FnSim nw fTuple (f1 tupleV) := FnSim.f1 fun {A h x mx v} f r e Q k => by
  obtain ⟨xs, h1, rfl⟩ := Option.map_eq_some_iff.mp e
  obtain ⟨ms, e1, r1⟩ := items_of r h1
  exact ⟨_, ms, rfl, e1, k _ _ (out_sc ⟨ms, rfl, r1⟩ fun n e => by cases e)⟩
theorem n_sum : FnSim nw fSum (f1 sumV) := FnSim.f1 fun {A h x mx v} f r e Q k => by
  obtain ⟨xs, h1, e⟩ := Option.bind_eq_some_iff.mp e
  obtain ⟨is, h2, rfl⟩ := Option.map_eq_some_iff.mp e
  obtain ⟨n, ms, rfl, e1, r1⟩ := ref_items r h1
  rw [intsV_of h2] at r1
  exact ⟨n, is, rfl, by rw [e1, r1.ints], k _ _ (out_sc rfl fun n e => by cases e)⟩
theorem n_max : FnSim nw fMaxL (f1 maxV) := FnSim.f1 fun {A h x mx v} f r e Q k => by
  obtain ⟨xs, h1, e⟩ := Option.bind_eq_some_iff.mp e
  obtain ⟨is, h2, e⟩ := Option.bind_eq_some_iff.mp e
  split at e
  · cases e
  · rename_i hne
    cases e
    obtain ⟨n, ms, rfl, e1, r1⟩ := ref_items r h1
    rw [intsV_of h2] at r1
    obtain ⟨p, q⟩ := maxI_ok is hne
    refine ⟨n, is, rfl, by rw [e1, r1.ints], hne, fun m hm hx => ?_⟩
    have : m = maxI is := Int.le_antisymm (q m hm) (hx _ p)
    subst this
    exact k _ _ (out_sc rfl fun n e => by cases e)
theorem n_min : FnSim nw fMinL (f1 minV) := FnSim.f1 fun {A h x mx v} f r e Q k => by
  obtain ⟨xs, h1, e⟩ := Option.bind_eq_some_iff.mp e
  obtain ⟨is, h2, e⟩ := Option.bind_eq_some_iff.mp e
  split at e
  · cases e
  · rename_i hne
    cases e
    obtain ⟨n, ms, rfl, e1, r1⟩ := ref_items r h1
    rw [intsV_of h2] at r1
    obtain ⟨p, q⟩ := minI_ok is hne
    refine ⟨n, is, rfl, by rw [e1, r1.ints], hne, fun m hm hx => ?_⟩
    have : m = minI is := Int.le_antisymm (hx _ p) (q m hm)
    subst this
    exact k _ _ (out_sc rfl fun n e => by cases e)
theorem n_sorted : FnSim nw fSorted (f1 sortV) := FnSim.f1 fun {A h x mx v} f r e Q k => by
  obtain ⟨xs, h1, e⟩ := Option.bind_eq_some_iff.mp e
  obtain ⟨is, h2, rfl⟩ := Option.map_eq_some_iff.mp e
  obtain ⟨n, ms, rfl, e1, r1⟩ := ref_items r h1
  rw [intsV_of h2] at r1
  refine ⟨n, is, rfl, by rw [e1, r1.ints], fun js hp hs => ?_⟩
  have : js = isort is := sorted_unique (hp.trans (isort_perm is).symm) hs (isort_sorted is)
  subst this
  exact k _ _ (out_lst (Rps.of_ints _) f)
theorem n_any : FnSim nw fAny (f1 anyV) := FnSim.f1 fun {A h x mx v} f r e Q k => by
  obtain ⟨xs, h1, e⟩ := Option.bind_eq_some_iff.mp e
  obtain ⟨is, h2, rfl⟩ := Option.map_eq_some_iff.mp e
  obtain ⟨n, ms, rfl, e1, r1⟩ := ref_items r h1
  rw [blsV_of h2] at r1
  exact ⟨n, is, rfl, by rw [e1, r1.bls], k _ _ (out_sc rfl fun n e => by cases e)⟩
theorem n_all : FnSim nw fAll (f1 allV) := FnSim.f1 fun {A h x mx v} f r e Q k => by
  obtain ⟨xs, h1, e⟩ := Option.bind_eq_some_iff.mp e
  obtain ⟨is, h2, rfl⟩ := Option.map_eq_some_iff.mp e
  obtain ⟨n, ms, rfl, e1, r1⟩ := ref_items r h1
  rw [blsV_of h2] at r1
  exact ⟨n, is, rfl, by rw [e1, r1.bls], k _ _ (out_sc rfl fun n e => by cases e)⟩
theorem n_rep : FnSim nw fRep (f1 repV) := FnSim.f1 fun {A h x mx v} f r e Q k => by
  unfold repV at e
  split at e
  · rename_i d h1
    split at e
    · rename_i hr
      cases e
      exact ⟨_, d, rfl, pd_of 60 x mx d h1 r, hr, k _ _ (out_sc rfl fun n e => by cases e)⟩
    · cases e
  · cases e
theorem n_i2 {g : Int → Int → Int} : FnSim nw (fI2 g) (f2I g) := by
  intro A h xs ms v f r e Q k
  unfold f2I at e
  split at e
  · cases e
    obtain ⟨m, n, rfl, a, b⟩ := r.two
    cases a; cases b
    exact ⟨_, _, rfl, k _ _ (out_sc rfl fun n e => by cases e)⟩
  · cases e
theorem n_min2 : FnSim nw fMin2 vMin2 := n_i2
theorem n_max2 : FnSim nw fMax2 vMax2 := n_i2
def tyV : PV → Option String
  | .non => some "NoneType"
  | .bl _ => some "bool"
  | .int _ => some "int"
  | .str _ => some "str"
  | .tup _ => some "tuple"
  | .lst _ => some "list"
  | .rol _ => some "list"
  | .dct _ => some "dict"
  | _ => none
theorem ty_of {A : Nat → Prop} {h : MH} {x : PV} {m : M} {t : String} (r : RpT A h x m) (e : tyV x = some t) : tyM h m = some t := by
  cases x with
  | tup => obtain ⟨ms, rfl, _⟩ := r; exact e
  | lst => obtain ⟨n, ms, rfl, g, _⟩ := r; unfold tyM; simp only [g]; exact e
  | rol => obtain ⟨n, ms, rfl, g, _⟩ := r; unfold tyM; simp only [g]; exact e
  | dct => obtain ⟨n, ms, rfl, g, _⟩ := r; unfold tyM; simp only [g]; exact e
  | exc => cases e
  | glo => cases e
  | opq => cases e
  | ty => cases e
  | _ => cases r; exact e
def isiV (xt : Str → M → Option Bool) (xs : List PV) : Option PV := match xs with
  | [.exc C _ _, .glo x] => (xt C (.glo x)).map .bl
  | [.exc C _ _, .ty x] => (xt C (.ty x)).map .bl
  | [x, .ty T] => match tyV x with
    | some t => if T ∈ tyList then some (.bl (isa t T)) else none
    | none => none
  | _ => none
theorem n_isi {xt : Str → M → Option Bool} : FnSim nw (fIsi xt) (isiV xt) := by
  intro A h xs ms v f r e Q k
  unfold isiV at e
  split at e
  · obtain ⟨b, h1, rfl⟩ := Option.map_eq_some_iff.mp e
    obtain ⟨m, n, rfl, a, b'⟩ := r.two
    obtain ⟨us, rfl, _⟩ := a
    cases b'
    exact ⟨b, h1, k _ _ (out_sc rfl fun n e => by cases e)⟩
  · obtain ⟨b, h1, rfl⟩ := Option.map_eq_some_iff.mp e
    obtain ⟨m, n, rfl, a, b'⟩ := r.two
    obtain ⟨us, rfl, _⟩ := a
    cases b'
    exact ⟨b, h1, k _ _ (out_sc rfl fun n e => by cases e)⟩
  · split at e
    · rename_i t ht
      split at e
      · rename_i hT
        cases e
        obtain ⟨m, n, rfl, a, b'⟩ := r.two
        cases b'
        have q := ty_of a ht
        refine ⟨isa t _, ?_, k _ _ (out_sc rfl fun n e => by cases e)⟩
        cases m <;> first | (cases q; done) | (simp only [isiM, q]; exact if_pos hT)
      · cases e
    · cases e
  · cases e
end
end Vn
end
section
set_option maxHeartbeats 1000000
namespace Vn
open PySem PySem.Spec PyProof.Rows L2 Mn

/-! ### slices -/
def cutV' (xs : List PV) (lo hi : Option Int) : List PV := (xs.drop (HT.sIx xs.length 0 lo)).take (HT.sIx xs.length xs.length hi - HT.sIx xs.length 0 lo)
def slV (x : PV) (lo hi : Option Int) : Option PV := match x with
  | .tup xs => some (.tup (cutV' xs lo hi))
  | .lst xs => some (.lst (cutV' xs lo hi))
  | .rol xs => some (.lst (cutV' xs lo hi))
  | _ => none
abbrev VO := VS → ER (Option Int)
def voNo : VO := fun s => .ok none s
def intO : PV → Option (Option Int)
  | .int i => some (some i)
  | _ => none
def voSome (a : VE) : VO := fun s => (a s).bind fun x s1 => opt (intO x) s1
def vSl (a : VE) (lo hi : VO) : VE := fun s => (a s).bind fun x s1 => (lo s1).bind fun l s2 => (hi s2).bind fun u s3 => opt (slV x l u) s3
def vSlL (i : Nat) (lo hi : VO) : VE := fun s => (vVar i s).bind fun _ _ => (lo s).bind fun l s2 => (hi s2).bind fun u s3 => (vVar i s3).bind fun x s4 => opt (slV x l u) s4
section
variable (Z : Bs) (own : List Nat)
def OSim (w : MTO) (v : VO) : Prop := ∀ {A0 : Nat → Prop} {ow : Nat → Option Nat} {s : VS} {sm : MS} {h : MH}, RSt Z A0 own ow s sm h → v s ≠ .bad → ∀ (Q : Option Int → MH → Prop) (E : KM),
  (∀ b s' h', v s = .ok b s' → RSt Z A0 own ow s' sm h' → Fr own ow h own ow h' → Q b h') →
  (∀ pv s' m h', v s = .xc pv s' → RSt Z A0 own ow s' sm h' → Fr own ow h own ow h' → Rp (Av A0 own ow) h' pv m → E m h') → w sm h Q E
end
section
variable {Z : Bs} {own : List Nat}
theorem vo_no : OSim Z own oNo voNo := fun r nb Q E k kx => k none _ _ rfl r Fr.refl
theorem vo_some {wa : MTE} {va : VE} (ha : BSim Z own wa va) : OSim Z own (oSome wa) (voSome va) := by
  intro A0 ow s sm h r nb Q E k kx
  have na : va s ≠ .bad := fun e => nb (by simp only [voSome, e, ER.bind])
  refine ha r na _ _ (fun x s1 m1 h1 e1 r1 f1 p1 => ?_) (fun x s1 m1 h1 e1 r1 f1 p1 => kx x s1 m1 h1 (by simp only [voSome, e1, ER.bind]) r1 f1 p1)
  cases x with
  | int i => cases p1; exact ⟨i, rfl, k _ s1 h1 (by simp only [voSome, e1, ER.bind, intO, opt]) r1 f1⟩
  | _ => exact absurd (by simp only [voSome, e1, ER.bind, intO, opt]) nb
theorem cut_rp {A : Nat → Prop} {h : MH} {xs : List PV} {ms : List M} (r : Rps A h xs ms) (lo hi : Option Int) : Rps A h (cutV' xs lo hi) (cutM ms lo hi) := by
  unfold cutV' cutM
  rw [r.length]
  exact (r.drop _).take _
theorem sl_ok {nw : Bool} {A : Nat → Prop} {h : MH} {x : PV} {mx : M} {v : PV} {lo hi : Option Int} (f : ∀ n, h.length ≤ n → A n) (rx : RpT A h x mx) (e : slV x lo hi = some v) (Q : KM) (k : ∀ m' h', Out nw A h v m' h' → Q m' h') : mSl mx lo hi h Q := by
  unfold slV at e
  split at e
  · cases e
    obtain ⟨ms, rfl, r⟩ := rx
    exact k _ _ (out_sc ⟨_, rfl, cut_rp r _ _⟩ fun n e => by cases e)
  · cases e
    obtain ⟨n, ms, rfl, g, r⟩ := rx
    exact ⟨ms, by simp only [itemsM, g], k _ _ (out_lst (cut_rp r _ _) f)⟩
  · cases e
    obtain ⟨n, ms, rfl, g, r⟩ := rx
    exact ⟨ms, by simp only [itemsM, g], k _ _ (out_lst (cut_rp r _ _) f)⟩
  · cases e
theorem v_sl {nw n1 : Bool} {wa : MTE} {va : VE} {wl wh : MTO} {vl vh : VO} (ha : ESim Z own n1 wa va) (hl : OSim Z own wl vl) (hh : OSim Z own wh vh) : ESim Z own nw (wSl wa wl wh) (vSl va vl vh) := by
  intro A0 ow s sm h r nb Q E k kx
  have na : va s ≠ .bad := fun e => nb (by simp only [vSl, e, ER.bind])
  refine ha r na _ _ (fun x s1 m1 h1 e1 r1 f1 p1 _ => ?_) (fun x s1 m1 h1 e1 r1 f1 p1 => kx x s1 m1 h1 (by simp only [vSl, e1, ER.bind]) r1 f1 p1)
  have n2 : vl s1 ≠ .bad := fun e => nb (by simp only [vSl, e1, e, ER.bind])
  refine hl r1 n2 _ _ (fun l s2 h2 e2 r2 f2 => ?_) (fun x s2 m2 h2 e2 r2 f2 p2 => kx x s2 m2 h2 (by simp only [vSl, e1, e2, ER.bind]) r2 (f1.trans f2) p2)
  have n3 : vh s2 ≠ .bad := fun e => nb (by simp only [vSl, e1, e2, e, ER.bind])
  refine hh r2 n3 _ _ (fun u s3 h3 e3 r3 f3 => ?_) (fun x s3 m3 h3 e3 r3 f3 p3 => kx x s3 m3 h3 (by simp only [vSl, e1, e2, e3, ER.bind]) r3 ((f1.trans f2).trans f3) p3)
  cases e : slV x l u with
  | none => exact absurd (by simp only [vSl, e1, e2, e3, e, ER.bind, opt]) nb
  | some v => exact sl_ok r3.avs (p1.fr (f2.trans f3)).toT e _ fun m h' o => k v s3 m h' (by simp only [vSl, e1, e2, e3, e, ER.bind, opt]) (r3.pre' o.pre) (((f1.trans f2).trans f3).trans (Fr.pre' o.pre)) o.rp (nw_of r3 o ((f1.trans f2).trans f3).len)
theorem v_slL {nw : Bool} {i : Nat} {wl wh : MTO} {vl vh : VO} (hl : OSim Z own wl vl) (hh : OSim Z own wh vh) : ESim Z own nw (wSl (wVar i) wl wh) (vSlL i vl vh) := by
  intro A0 ow s sm h r nb Q E k kx
  obtain ⟨v0, e0, e0'⟩ := var_ok (s := s) (i := i) fun e => nb (by simp only [vSlL, e, ER.bind])
  obtain ⟨m0, em0, _⟩ := r.slot e0
  refine ⟨m0, em0, ?_⟩
  have n2 : vl s ≠ .bad := fun e => nb (by simp only [vSlL, e0', e, ER.bind])
  refine hl r n2 _ _ (fun l s2 h2 e2 r2 f2 => ?_) (fun x s2 m2 h2 e2 r2 f2 p2 => kx x s2 m2 h2 (by simp only [vSlL, e0', e2, ER.bind]) r2 f2 p2)
  have n3 : vh s2 ≠ .bad := fun e => nb (by simp only [vSlL, e0', e2, e, ER.bind])
  refine hh r2 n3 _ _ (fun u s3 h3 e3 r3 f3 => ?_) (fun x s3 m3 h3 e3 r3 f3 p3 => kx x s3 m3 h3 (by simp only [vSlL, e0', e2, e3, ER.bind]) r3 (f2.trans f3) p3)
  obtain ⟨x, e4, e4'⟩ := var_ok (s := s3) (i := i) fun e => nb (by simp only [vSlL, e0', e2, e3, e, ER.bind])
  obtain ⟨m4, em4, p4⟩ := r3.slot e4
  rw [em0] at em4
  cases em4
  cases e : slV x l u with
  | none => exact absurd (by simp only [vSlL, e0', e2, e3, e4', e, ER.bind, opt]) nb
  | some v => exact sl_ok r3.avs p4 e _ fun m h' o => k v s3 m h' (by simp only [vSlL, e0', e2, e3, e4', e, ER.bind, opt]) (r3.pre' o.pre) ((f2.trans f3).trans (Fr.pre' o.pre)) o.rp (nw_of r3 o (f2.trans f3).len)
end

/-! ### methods that only read -/
def MSim (nw : Bool) (m : MM) (g : PV → List PV → Option PV) : Prop := ∀ {A : Nat → Prop} {h : MH} {x : PV} {mx : M} {ys : List PV} {ms : List M} {v : PV}, (∀ n, h.length ≤ n → A n) → RpT A h x mx → RpTs A h ys ms → g x ys = some v →
  ∀ Q : KM, (∀ m' h', Out nw A h v m' h' → Q m' h') → m mx ms h Q
def vBm (g : PV → List PV → Option PV) (a : VE) (r : VA) : VE := fun s => (a s).bind fun x s1 => if (refItems x).isSome = true then (r s1).bind fun ys s2 => opt (g x ys) s2 else .bad
def vBmL (g : PV → List PV → Option PV) (i : Nat) (r : VA) : VE := fun s => (vVar i s).bind fun x _ => if (refItems x).isSome = true then (r s).bind fun ys s2 => (vVar i s2).bind fun x s3 => opt (g x ys) s3 else .bad
def idxOf (p : PV → Bool) : List PV → Option Nat
  | [] => none
  | x :: r => if p x = true then some 0 else (idxOf p r).map (· + 1)
theorem idxOf_spec {p : PV → Bool} : ∀ {xs : List PV} {j : Nat}, idxOf p xs = some j → (∃ x, xs[j]? = some x ∧ p x = true) ∧ ∀ m z, m < j → xs[m]? = some z → p z = false
  | [], _, e => by cases e
  | x :: r, j, e => by
    unfold idxOf at e
    split at e
    · rename_i h
      cases e
      exact ⟨⟨x, rfl, h⟩, fun m z hm => absurd hm (by omega)⟩
    · rename_i h
      obtain ⟨i, h1, rfl⟩ := Option.map_eq_some_iff.mp e
      obtain ⟨⟨y, a, b⟩, c⟩ := idxOf_spec h1
      refine ⟨⟨y, by simpa using a, b⟩, fun m z hm hz => ?_⟩
      cases m with
      | zero => simp at hz; subst hz; simpa using h
      | succ m => exact c m z (by omega) (by simpa using hz)
def indexV (x : PV) (ys : List PV) : Option PV := match refItems x, ys with
  | some xs, [y] => if flatV y = true ∧ xs.all flatV = true then (idxOf (fun z => eqVV z y) xs).map fun j => .int (j : Nat) else none
  | _, _ => none
def countV (x : PV) (ys : List PV) : Option PV := match refItems x, ys with
  | some xs, [y] => if flatV y = true ∧ xs.all flatV = true then some (.int (xs.countP (fun z => eqVV z y) : Nat)) else none
  | _, _ => none
theorem k_index {nw : Bool} : MSim nw kIndex indexV := by
  intro A h x mx ys ms v f rx rs e Q k
  unfold indexV at e
  split at e
  · rename_i xs y h1
    split at e
    · rename_i hf
      obtain ⟨j, h2, rfl⟩ := Option.map_eq_some_iff.mp e
      obtain ⟨n, us, rfl, e1, r1⟩ := ref_items rx h1
      obtain ⟨my, rfl, ry⟩ := rs.one
      obtain ⟨⟨z, hz, hp⟩, hlt⟩ := idxOf_spec h2
      obtain ⟨mz, hmz, rz⟩ := r1.get hz
      have fz : flatV z = true := List.all_eq_true.mp hf.2 z (List.mem_of_getElem? hz)
      refine ⟨n, us, my, j, mz, rfl, rfl, e1, (flat_rp ry hf.1).2, flats_rp r1 hf.2, hmz, by rw [eqV_rp rz.toT ry fz hf.1]; exact hp, fun m z' hm hz' => ?_, k _ _ (out_sc rfl fun n e => by cases e)⟩
      have hml : m < xs.length := by rw [r1.length]; exact (List.getElem?_eq_some_iff.mp hz').1
      obtain ⟨mz2, hmz2, rz2⟩ := r1.get (x := xs[m]) (i := m) (by simp)
      rw [hz'] at hmz2
      cases hmz2
      rw [eqV_rp rz2.toT ry (List.all_eq_true.mp hf.2 _ (List.getElem_mem _)) hf.1]
      exact hlt m _ hm (by simp)
    · cases e
  · cases e
theorem k_count {nw : Bool} : MSim nw kCount countV := by
  intro A h x mx ys ms v f rx rs e Q k
  unfold countV at e
  split at e
  · rename_i xs y h1
    split at e
    · rename_i hf
      cases e
      obtain ⟨n, us, rfl, e1, r1⟩ := ref_items rx h1
      obtain ⟨my, rfl, ry⟩ := rs.one
      refine ⟨n, us, my, rfl, rfl, e1, (flat_rp ry hf.1).2, flats_rp r1 hf.2, ?_⟩
      rw [count_rp ry hf.1 r1 hf.2]
      exact k _ _ (out_sc rfl fun n e => by cases e)
    · cases e
  · cases e
section
variable {Z : Bs} {own : List Nat} {nw : Bool}
theorem refItems_ref {A : Nat → Prop} {h : MH} {x : PV} {m : M} (r : RpT A h x m) (e : (refItems x).isSome = true) : ∃ n xs, m = .ref n ∧ itemsM h (.ref n) = some xs := by
  obtain ⟨xs, hx⟩ := Option.isSome_iff_exists.mp e
  obtain ⟨n, ms, a, b, _⟩ := ref_items r hx
  exact ⟨n, ms, a, b⟩
theorem v_bm {m : MM} {g : PV → List PV → Option PV} {wa : MTE} {va : VE} {wr : MTA} {vr : VA} {n1 : Bool} (hm : MSim nw m g) (ha : ESim Z own n1 wa va) (hr : BASim Z own wr vr) : ESim Z own nw (wBm m wa wr) (vBm g va vr) := by
  intro A0 ow s sm h r nb Q E k kx
  have na : va s ≠ .bad := fun e => nb (by simp only [vBm, e, ER.bind])
  refine ha r na _ _ (fun x s1 m1 h1 e1 r1 f1 p1 _ => ?_) (fun x s1 m1 h1 e1 r1 f1 p1 => kx x s1 m1 h1 (by simp only [vBm, e1, ER.bind]) r1 f1 p1)
  by_cases hx : (refItems x).isSome = true
  · refine ⟨refItems_ref p1.toT hx, ?_⟩
    have n2 : vr s1 ≠ .bad := fun e => nb (by simp only [vBm, e1, ER.bind, if_pos hx, e])
    refine hr r1 n2 _ _ (fun ys s2 m2 h2 e2 r2 f2 p2 => ?_) (fun y s2 m2 h2 e2 r2 f2 p2 => kx y s2 m2 h2 (by simp only [vBm, e1, ER.bind, if_pos hx, e2]) r2 (f1.trans f2) p2)
    cases e : g x ys with
    | none => exact absurd (by simp only [vBm, e1, e2, e, ER.bind, opt, if_pos hx]) nb
    | some v => exact hm r2.avs (p1.fr f2).toT p2 e _ fun m h' o => k v s2 m h' (by simp only [vBm, e1, e2, e, ER.bind, opt, if_pos hx]) (r2.pre' o.pre) ((f1.trans f2).trans (Fr.pre' o.pre)) o.rp (nw_of r2 o (f1.trans f2).len)
  · exact absurd (by simp only [vBm, e1, ER.bind, if_neg hx]) nb
theorem v_bmL {m : MM} {g : PV → List PV → Option PV} {i : Nat} {wr : MTA} {vr : VA} (hm : MSim nw m g) (hr : BASim Z own wr vr) : ESim Z own nw (wBm m (wVar i) wr) (vBmL g i vr) := by
  intro A0 ow s sm h r nb Q E k kx
  obtain ⟨v0, e0, e0'⟩ := var_ok (s := s) (i := i) fun e => nb (by simp only [vBmL, e, ER.bind])
  obtain ⟨m0, em0, p0⟩ := r.slot e0
  refine ⟨m0, em0, ?_⟩
  by_cases hx : (refItems v0).isSome = true
  · refine ⟨refItems_ref p0 hx, ?_⟩
    have n2 : vr s ≠ .bad := fun e => nb (by simp only [vBmL, e0', ER.bind, if_pos hx, e])
    refine hr r n2 _ _ (fun ys s2 m2 h2 e2 r2 f2 p2 => ?_) (fun y s2 m2 h2 e2 r2 f2 p2 => kx y s2 m2 h2 (by simp only [vBmL, e0', ER.bind, if_pos hx, e2]) r2 f2 p2)
    obtain ⟨x, e4, e4'⟩ := var_ok (s := s2) (i := i) fun e => nb (by simp only [vBmL, e0', ER.bind, if_pos hx, e2, e])
    obtain ⟨m4, em4, p4⟩ := r2.slot e4
    rw [em0] at em4
    cases em4
    cases e : g x ys with
    | none => exact absurd (by simp only [vBmL, e0', e2, e4', e, ER.bind, opt, if_pos hx]) nb
    | some v => exact hm r2.avs p4 p2 e _ fun m h' o => k v s2 m h' (by simp only [vBmL, e0', e2, e4', e, ER.bind, opt, if_pos hx]) (r2.pre' o.pre) (f2.trans (Fr.pre' o.pre)) o.rp (nw_of r2 o f2.len)
  · exact absurd (by simp only [vBmL, e0', ER.bind, if_neg hx]) nb
end

/-! ### statements -/
structure Pst (Z : Bs) (A0 : Nat → Prop) (own : List Nat) (ow : Nat → Option Nat) (h : MH) (ios : List Nat) (own' : List Nat) (s' : VS) (ow' : Nat → Option Nat) (sm' : MS) (h' : MH) : Prop where
  st : RSt Z A0 own' ow' s' sm' h'
  fr : Fr own ow h own' ow' h'
  kp : ∀ p ∈ ios, ow' p = ow p
theorem Pst.trans {Z : Bs} {A0 : Nat → Prop} {own own1 own2 ios : List Nat} {ow ow1 ow2 : Nat → Option Nat} {h h1 h2 : MH} {s1 s2 : VS} {sm1 sm2 : MS} (a : Pst Z A0 own ow h ios own1 s1 ow1 sm1 h1) (b : Pst Z A0 own1 ow1 h1 ios own2 s2 ow2 sm2 h2) :
    Pst Z A0 own ow h ios own2 s2 ow2 sm2 h2 := ⟨b.st, a.fr.trans b.fr, fun p hp => (b.kp p hp).trans (a.kp p hp)⟩
structure SX where
  nx : List Nat
  br : List Nat
  ct : List Nat
  xc : List Nat
  ios : List Nat
def SSim (Z : Bs) (own : List Nat) (X : SX) (w : MTS) (v : VSt) : Prop := ∀ {A0 : Nat → Prop} {ow : Nat → Option Nat} {s : VS} {sm : MS} {h : MH}, RSt Z A0 own ow s sm h → v s ≠ .bad → ∀ D : MD,
  (∀ s' ow' sm' h', v s = .nx s' → Pst Z A0 own ow h X.ios X.nx s' ow' sm' h' → D.nx sm' h') →
  (∀ pv s' m ow' sm' h', v s = .rt pv s' → Pst Z A0 own ow h X.ios X.ios s' ow' sm' h' → Rp (Av A0 X.ios ow') h' pv m → D.rt m h') →
  (∀ s' ow' sm' h', v s = .br s' → Pst Z A0 own ow h X.ios X.br s' ow' sm' h' → D.bk sm' h') →
  (∀ s' ow' sm' h', v s = .ct s' → Pst Z A0 own ow h X.ios X.ct s' ow' sm' h' → D.ct sm' h') →
  (∀ pv s' m ow' sm' h', v s = .xc pv s' → Pst Z A0 own ow h X.ios X.xc s' ow' sm' h' → Rp (Av A0 X.xc ow') h' pv m → D.xc m sm' h') → w D sm h
def vNext : VSt := fun s => .nx s
def vBrk : VSt := fun s => .br s
def vCnt : VSt := fun s => .ct s
def SR.seq (r : SR) (f : VSt) : SR := match r with
  | .nx s => f s
  | r => r
def vSeq (a b : VSt) : VSt := fun s => (a s).seq b
def ER.st {α : Type} (r : ER α) (f : α → VSt) : SR := match r with
  | .ok a s => f a s
  | .xc e s => .xc e s
  | .bad => .bad
def vRet (a : VE) : VSt := fun s => (a s).st .rt
def vDrop (a : VE) : VSt := fun s => (a s).st fun _ s1 => .nx s1
def vIf (t : VT) (a b : VSt) : VSt := fun s => (t s).st fun c s1 => if c = true then a s1 else b s1
abbrev VG := PV → VS → Option VS
def oS (o : Option VS) : SR := match o with
  | some s => .nx s
  | none => .bad
def vAsg (a : VE) (g : VG) : VSt := fun s => (a s).st fun x s1 => oS (g x s1)
def isObj : PV → Bool
  | .lst _ => true
  | .dct _ => true
  | _ => false
def vAsgO (a : VE) (i : Nat) : VSt := fun s => (a s).st fun x s1 => if isObj x = true then .nx (s1.set i (some x)) else .bad
def GSim (own : List Nat) (g : MTG) (v : VG) : Prop := ∀ {Z : Bs} {A0 : Nat → Prop} {ow : Nat → Option Nat} {s s' : VS} {sm : MS} {h : MH} {x : PV} {m : M}, RSt Z A0 own ow s sm h → Rp (Av A0 own ow) h x m → v x s = some s' →
  ∀ Q : MS → MH → Prop, (∀ sm', RSt Z A0 own ow s' sm' h → Q sm' h) → g m sm h Q
def vgN (i : Nat) : VG := fun x s => some (s.set i (some x))
abbrev VGs := List PV → VS → Option VS
def vgsNil : VGs := fun xs s => match xs with
  | [] => some s
  | _ => none
def vgsCons (g : VG) (r : VGs) : VGs := fun xs s => match xs with
  | x :: l => (g x s).bind fun s1 => r l s1
  | [] => none
def vgT (n : Nat) (g : VGs) : VG := fun x s => match x with
  | .tup xs => if xs.length = n then g xs s else none
  | _ => none
def vgL (n : Nat) (g : VGs) : VG := fun x s => match x with
  | .lst xs => if xs.length = n then g xs s else none
  | _ => none
def GsSim (own : List Nat) (g : MTGs) (v : VGs) : Prop := ∀ {Z : Bs} {A0 : Nat → Prop} {ow : Nat → Option Nat} {s s' : VS} {sm : MS} {h : MH} {xs : List PV} {ms : List M}, RSt Z A0 own ow s sm h → Rps (Av A0 own ow) h xs ms → v xs s = some s' →
  ∀ Q : MS → MH → Prop, (∀ sm', RSt Z A0 own ow s' sm' h → Q sm' h) → g ms sm h Q
section
variable {Z : Bs} {own own' : List Nat} {X : SX}
theorem Pst.one {A0 : Nat → Prop} {ow : Nat → Option Nat} {h h' : MH} {ios : List Nat} {s' : VS} {sm' : MS} (r : RSt Z A0 own ow s' sm' h') (f : Fr own ow h own ow h') (d : own' ⊆ own) : Pst Z A0 own ow h ios own' s' ow sm' h' := ⟨r.drop d, f.trans (Fr.drop d), fun _ _ => rfl⟩
theorem Pst.zero {A0 : Nat → Prop} {ow : Nat → Option Nat} {h : MH} {ios : List Nat} {s' : VS} {sm' : MS} (r : RSt Z A0 own ow s' sm' h) (d : own' ⊆ own) : Pst Z A0 own ow h ios own' s' ow sm' h := Pst.one r Fr.refl d
theorem v_next (d : X.nx ⊆ own) : SSim Z own X wNext vNext := fun r nb D kn kr kb kc kx => kn _ _ _ _ rfl (Pst.zero r d)
theorem v_brk (d : X.br ⊆ own) : SSim Z own X wBrk vBrk := fun r nb D kn kr kb kc kx => kb _ _ _ _ rfl (Pst.zero r d)
theorem v_cnt (d : X.ct ⊆ own) : SSim Z own X wCnt vCnt := fun r nb D kn kr kb kc kx => kc _ _ _ _ rfl (Pst.zero r d)
/-- some names' own objects are let go first -/
theorem v_less {w : MTS} {v : VSt} (d : own' ⊆ own) (a : SSim Z own' X w v) : SSim Z own X w v := fun r nb D kn kr kb kc kx => by
  have p := Pst.zero (ios := X.ios) r d
  exact a p.st nb D (fun s' ow' sm' h' e q => kn s' ow' sm' h' e (p.trans q)) (fun pv s' m ow' sm' h' e q u => kr pv s' m ow' sm' h' e (p.trans q) u) (fun s' ow' sm' h' e q => kb s' ow' sm' h' e (p.trans q)) (fun s' ow' sm' h' e q => kc s' ow' sm' h' e (p.trans q))
    (fun pv s' m ow' sm' h' e q u => kx pv s' m ow' sm' h' e (p.trans q) u)
theorem v_seq {o1 : List Nat} {wa wb : MTS} {va vb : VSt} (ha : SSim Z own { X with nx := o1 } wa va) (hb : SSim Z o1 X wb vb) : SSim Z own X (wSeq wa wb) (vSeq va vb) := by
  intro A0 ow s sm h r nb D kn kr kb kc kx
  have na : va s ≠ .bad := fun e => nb (by simp only [vSeq, e, SR.seq])
  refine ha r na _ (fun s1 ow1 sm1 h1 e1 p1 => ?_) (fun pv s' m ow' sm' h' e q u => kr pv s' m ow' sm' h' (by simp only [vSeq, e, SR.seq]) q u) (fun s' ow' sm' h' e q => kb s' ow' sm' h' (by simp only [vSeq, e, SR.seq]) q) (fun s' ow' sm' h' e q => kc s' ow' sm' h' (by simp only [vSeq, e, SR.seq]) q)
    (fun pv s' m ow' sm' h' e q u => kx pv s' m ow' sm' h' (by simp only [vSeq, e, SR.seq]) q u)
  have ev : vSeq va vb s = vb s1 := by simp only [vSeq, e1, SR.seq]
  exact hb p1.st (ev ▸ nb) D (fun s' ow' sm' h' e q => kn s' ow' sm' h' (ev.trans e) (p1.trans q)) (fun pv s' m ow' sm' h' e q u => kr pv s' m ow' sm' h' (ev.trans e) (p1.trans q) u) (fun s' ow' sm' h' e q => kb s' ow' sm' h' (ev.trans e) (p1.trans q)) (fun s' ow' sm' h' e q => kc s' ow' sm' h' (ev.trans e) (p1.trans q))
    (fun pv s' m ow' sm' h' e q u => kx pv s' m ow' sm' h' (ev.trans e) (p1.trans q) u)
theorem rp_drop {A0 : Nat → Prop} {ow : Nat → Option Nat} {h : MH} {pv : PV} {m : M} (r : Rp (Av A0 own ow) h pv m) (d : own' ⊆ own) : Rp (Av A0 own' ow) h pv m := r.fr (Fr.drop d)
theorem v_ret {own2 : List Nat} {n1 : Bool} {wa : MTE} {va : VE} (d : own2 ⊆ own) (d1 : X.ios ⊆ own2) (d2 : X.xc ⊆ own2) (ha : ESim Z own2 n1 wa va) : SSim Z own X (wRet wa) (vRet va) := by
  intro A0 ow s sm h r nb D kn kr kb kc kx
  have p := Pst.zero (ios := X.ios) r d
  have na : va s ≠ .bad := fun e => nb (by simp only [vRet, e, ER.st])
  exact ha p.st na _ _ (fun x s1 m1 h1 e1 r1 f1 p1 _ => kr x s1 m1 ow sm h1 (by simp only [vRet, e1, ER.st]) (p.trans (Pst.one r1 f1 d1)) (rp_drop p1 d1)) (fun x s1 m1 h1 e1 r1 f1 p1 => kx x s1 m1 ow sm h1 (by simp only [vRet, e1, ER.st]) (p.trans (Pst.one r1 f1 d2)) (rp_drop p1 d2))
theorem v_drop {n1 : Bool} {wa : MTE} {va : VE} (d : X.nx ⊆ own) (d2 : X.xc ⊆ own) (ha : ESim Z own n1 wa va) : SSim Z own X (wDrop wa) (vDrop va) := by
  intro A0 ow s sm h r nb D kn kr kb kc kx
  have na : va s ≠ .bad := fun e => nb (by simp only [vDrop, e, ER.st])
  exact ha r na _ _ (fun x s1 m1 h1 e1 r1 f1 p1 _ => kn s1 ow sm h1 (by simp only [vDrop, e1, ER.st]) (Pst.one r1 f1 d)) (fun x s1 m1 h1 e1 r1 f1 p1 => kx x s1 m1 ow sm h1 (by simp only [vDrop, e1, ER.st]) (Pst.one r1 f1 d2) (rp_drop p1 d2))
theorem v_if {wt : MTT} {vt : VT} {wa wb : MTS} {va vb : VSt} (d2 : X.xc ⊆ own) (ht : TSim Z own wt vt) (ha : SSim Z own X wa va) (hb : SSim Z own X wb vb) : SSim Z own X (wIf wt wa wb) (vIf vt va vb) := by
  intro A0 ow s sm h r nb D kn kr kb kc kx
  have na : vt s ≠ .bad := fun e => nb (by simp only [vIf, e, ER.st])
  refine ht r na _ _ (fun c s1 h1 e1 r1 f1 => ?_) (fun x s1 m1 h1 e1 r1 f1 p1 => kx x s1 m1 ow sm h1 (by simp only [vIf, e1, ER.st]) (Pst.one r1 f1 d2) (rp_drop p1 d2))
  have p1 := Pst.one (ios := X.ios) r1 f1 (fun _ h => h)
  by_cases hc : c = true
  · rw [if_pos hc]
    have ev : vIf vt va vb s = va s1 := by simp only [vIf, e1, ER.st, hc, if_true]
    exact ha r1 (ev ▸ nb) D (fun s' ow' sm' h' e q => kn s' ow' sm' h' (ev.trans e) (p1.trans q)) (fun pv s' m ow' sm' h' e q u => kr pv s' m ow' sm' h' (ev.trans e) (p1.trans q) u) (fun s' ow' sm' h' e q => kb s' ow' sm' h' (ev.trans e) (p1.trans q)) (fun s' ow' sm' h' e q => kc s' ow' sm' h' (ev.trans e) (p1.trans q))
      (fun pv s' m ow' sm' h' e q u => kx pv s' m ow' sm' h' (ev.trans e) (p1.trans q) u)
  · rw [if_neg hc]
    have ev : vIf vt va vb s = vb s1 := by simp only [vIf, e1, ER.st, if_neg hc]
    exact hb r1 (ev ▸ nb) D (fun s' ow' sm' h' e q => kn s' ow' sm' h' (ev.trans e) (p1.trans q)) (fun pv s' m ow' sm' h' e q u => kr pv s' m ow' sm' h' (ev.trans e) (p1.trans q) u) (fun s' ow' sm' h' e q => kb s' ow' sm' h' (ev.trans e) (p1.trans q)) (fun s' ow' sm' h' e q => kc s' ow' sm' h' (ev.trans e) (p1.trans q))
      (fun pv s' m ow' sm' h' e q u => kx pv s' m ow' sm' h' (ev.trans e) (p1.trans q) u)
theorem vg_n {i : Nat} (hi : i ∉ own) : GSim own (gN i) (vgN i) := fun r p e Q k => by
  cases e
  exact k _ (r.put hi p)
theorem vgs_nil : GsSim own gsNil vgsNil := fun {Z A0 ow s s' sm h xs ms} r p e Q k => by
  cases xs with
  | nil => cases e; cases p; exact ⟨rfl, k _ r⟩
  | cons => cases e
theorem vgs_cons {g : MTG} {v : VG} {gs : MTGs} {vs : VGs} (hg : GSim own g v) (hs : GsSim own gs vs) : GsSim own (gsCons g gs) (vgsCons v vs) := fun {Z A0 ow s s' sm h xs ms} r p e Q k => by
  cases xs with
  | nil => cases e
  | cons x l =>
    obtain ⟨s1, h1, h2⟩ := Option.bind_eq_some_iff.mp e
    obtain ⟨m, t, rfl, a, b⟩ := p
    exact ⟨m, t, rfl, hg r a h1 _ fun sm1 r1 => hs r1 b h2 _ k⟩
theorem vg_T {n : Nat} {gs : MTGs} {vs : VGs} (hs : GsSim own gs vs) : GSim own (gT n gs) (vgT n vs) := fun {Z A0 ow s s' sm h x m} r p e Q k => by
  unfold vgT at e
  split at e
  · split at e
    · rename_i hl
      obtain ⟨ms, rfl, q⟩ := p
      exact ⟨ms, rfl, by rw [← q.length]; exact hl, hs r q e _ k⟩
    · cases e
  · cases e
theorem vg_L {n : Nat} {gs : MTGs} {vs : VGs} (hs : GsSim own gs vs) : GSim own (gL n gs) (vgL n vs) := fun {Z A0 ow s s' sm h x m} r p e Q k => by
  unfold vgL at e
  split at e
  · split at e
    · rename_i hl
      obtain ⟨j, ms, rfl, a, g, q⟩ := p
      exact ⟨j, ms, rfl, g, by rw [← q.length]; exact hl, hs r q e _ k⟩
    · cases e
  · cases e
theorem v_asg {n1 : Bool} {wa : MTE} {va : VE} {g : MTG} {vg : VG} (d : X.nx ⊆ own) (d2 : X.xc ⊆ own) (ha : ESim Z own n1 wa va) (hg : GSim own g vg) : SSim Z own X (wAsg wa g) (vAsg va vg) := by
  intro A0 ow s sm h r nb D kn kr kb kc kx
  have na : va s ≠ .bad := fun e => nb (by simp only [vAsg, e, ER.st])
  refine ha r na _ _ (fun x s1 m1 h1 e1 r1 f1 p1 _ => ?_) (fun x s1 m1 h1 e1 r1 f1 p1 => kx x s1 m1 ow sm h1 (by simp only [vAsg, e1, ER.st]) (Pst.one r1 f1 d2) (rp_drop p1 d2))
  cases e : vg x s1 with
  | none => exact absurd (by simp only [vAsg, e1, ER.st, e, oS]) nb
  | some s2 => exact hg r1 p1 e _ fun sm2 r2 => kn s2 ow sm2 h1 (by simp only [vAsg, e1, ER.st, e, oS]) (Pst.one r2 f1 d)
/-- a name gets an object of its own -/
theorem v_asgO {wa : MTE} {va : VE} {i : Nat} (hi : i ∉ own) (hio : i ∉ X.ios) (d : X.nx ⊆ i :: own) (d2 : X.xc ⊆ own) (ha : ESim Z own true wa va) : SSim Z own X (wAsg wa (gN i)) (vAsgO va i) := by
  intro A0 ow s sm h r nb D kn kr kb kc kx
  have na : va s ≠ .bad := fun e => nb (by simp only [vAsgO, e, ER.st])
  refine ha r na _ _ (fun x s1 m1 h1 e1 r1 f1 p1 n1 => ?_) (fun x s1 m1 h1 e1 r1 f1 p1 => kx x s1 m1 ow sm h1 (by simp only [vAsgO, e1, ER.st]) (Pst.one r1 f1 d2) (rp_drop p1 d2))
  by_cases ho : isObj x = true
  · obtain ⟨n, rfl⟩ : ∃ n, m1 = .ref n := by
      cases x with
      | lst => obtain ⟨n, _, e, _⟩ := p1; exact ⟨n, e⟩
      | dct => obtain ⟨n, _, e, _⟩ := p1; exact ⟨n, e⟩
      | _ => cases ho
    obtain ⟨hn, a, r2, q⟩ := n1 rfl n rfl
    have r3 := r2.take hi a r2.un_hide q fun k o e => by
      have := (List.getElem?_eq_some_iff.mp (r.tb k o e).1).1
      omega
    have f3 := f1.take hi hn
    refine kn _ (upw ow i n) _ h1 (by simp only [vAsgO, e1, ER.st, if_pos ho]) ⟨r3.drop d, f3.trans (Fr.drop d), fun p hp => upw_ne fun z => hio (z ▸ hp)⟩
  · exact absurd (by simp only [vAsgO, e1, ER.st, if_neg ho]) nb
def vAug (f : PV → PV → Option PV) (i : Nat) (b : VE) : VSt := fun s => (vVar i s).st fun x _ => (b s).st fun y s1 => match f x y with
  | some z => .nx (s1.set i (some z))
  | none => .bad
theorem v_aug {m : MR2} {f : PV → PV → Option PV} {i : Nat} {nw : Bool} {wb : MTE} {vb : VE} (hi : i ∉ own) (d : X.nx ⊆ own) (d2 : X.xc ⊆ own) (ho : OpSim nw m f) (hb : BSim Z own wb vb) : SSim Z own X (wAug i wb m) (vAug f i vb) := by
  intro A0 ow s sm h r nb D kn kr kb kc kx
  obtain ⟨v0, e0, e0'⟩ := var_ok (s := s) (i := i) fun e => nb (by simp only [vAug, e, ER.st])
  obtain ⟨m0, em0, p0⟩ := r.frz i v0 hi e0
  refine ⟨m0, em0, ?_⟩
  have nb' : vb s ≠ .bad := fun e => nb (by simp only [vAug, e0', e, ER.st])
  refine hb r nb' _ _ (fun y s1 m1 h1 e1 r1 f1 p1 => ?_) (fun y s1 m1 h1 e1 r1 f1 p1 => kx y s1 m1 ow sm h1 (by simp only [vAug, e0', e1, ER.st]) (Pst.one r1 f1 d2) (rp_drop p1 d2))
  cases e : f v0 y with
  | none => exact absurd (by simp only [vAug, e0', e1, e, ER.st]) nb
  | some z => exact ho r1.avs (p0.fr f1).toT p1 e _ fun mz h' o => kn (s1.set i (some z)) ow (sm.set i (some mz)) h' (by simp only [vAug, e0', e1, e, ER.st]) (Pst.one ((r1.pre' o.pre).put hi o.rp) (f1.trans (Fr.pre' o.pre)) d)
def setL (s : VS) (i : Nat) (xs : List PV) : VS := s.set i (some (.lst xs))
def ownL (s : VS) (i : Nat) : Option (List PV) := match s[i]? with
  | some (some (.lst xs)) => some xs
  | _ => none
theorem ownL_of {s : VS} {i : Nat} {xs : List PV} (e : ownL s i = some xs) : s[i]? = some (some (.lst xs)) := by
  unfold ownL at e
  split at e
  · cases e; assumption
  · cases e
/-- what an own list is, and what a change of it is -/
theorem own_go {A0 : Nat → Prop} {ow : Nat → Option Nat} {s : VS} {sm : MS} {h : MH} {i : Nat} {xs : List PV} (r : RSt Z A0 own ow s sm h) (hi : i ∈ own) (e : ownL s i = some xs) :
    ∃ n ms, sm[i]? = some (some (.ref n)) ∧ h[n]? = some (.lst ms) ∧ Rps (Av A0 own ow) h xs ms ∧ ∀ ys ns, Rps (Av A0 own ow) h ys ns → RSt Z A0 own ow (setL s i ys) sm (h.set n (.lst ns)) ∧ Fr own ow h own ow (h.set n (.lst ns)) := by
  have e := ownL_of e
  obtain ⟨n, a, b, ms, g, q⟩ := r.ows i _ hi e
  refine ⟨n, ms, b, g, q, fun ys ns p => ?_⟩
  refine r.upd hi (List.getElem?_eq_some_iff.mp e).1 b a trivial ⟨ns, List.getElem?_set_self (List.getElem?_eq_some_iff.mp g).1, p.mono fun k o av ek => ⟨av, ?_⟩⟩
  rw [List.getElem?_set_ne]
  · exact ek
  · rintro rfl; exact av.2 i hi a
def vAppend (i : Nat) (a : VE) : VSt := fun s => match ownL s i with
  | some _ => (a s).st fun y s1 => match ownL s1 i with
    | some xs => if xs.length < SZ then .nx (setL s1 i (xs ++ [y])) else .bad
    | none => .bad
  | none => .bad
theorem v_append {i : Nat} {n1 : Bool} {wa : MTE} {va : VE} (hi : i ∈ own) (d : X.nx ⊆ own) (d2 : X.xc ⊆ own) (ha : ESim Z own n1 wa va) : SSim Z own X (wDrop (wBm kAppend (wVar i) (wCons wa wNil))) (vAppend i va) := by
  intro A0 ow s sm h r nb D kn kr kb kc kx
  cases e0 : ownL s i with
  | none => exact absurd (by simp only [vAppend, e0]) nb
  | some xs0 =>
    obtain ⟨n, ms, em, g, _, _⟩ := own_go r hi e0
    refine ⟨_, em, ⟨n, ms, rfl, by simp only [itemsM, g]⟩, ?_⟩
    have na : va s ≠ .bad := fun e => nb (by simp only [vAppend, e0, e, ER.st])
    refine ha r na _ _ (fun y s1 m1 h1 e1 r1 f1 p1 _ => ?_) (fun y s1 m1 h1 e1 r1 f1 p1 => kx y s1 m1 ow sm h1 (by simp only [vAppend, e0, e1, ER.st]) (Pst.one r1 f1 d2) (rp_drop p1 d2))
    cases e2 : ownL s1 i with
    | none => exact absurd (by simp only [vAppend, e0, e1, e2, ER.st]) nb
    | some xs =>
      obtain ⟨n2, ms2, em2, g2, q2, up⟩ := own_go r1 hi e2
      rw [em] at em2
      cases em2
      by_cases hl : xs.length < SZ
      · obtain ⟨r3, f3⟩ := up (xs ++ [y]) (ms2 ++ [m1]) (q2.append (Rps.one p1))
        exact ⟨n, ms2, m1, rfl, rfl, g2, by rw [← q2.length]; exact hl, kn _ ow sm _ (by simp only [vAppend, e0, e1, e2, ER.st, if_pos hl]) (Pst.one r3 (f1.trans f3) d)⟩
      · exact absurd (by simp only [vAppend, e0, e1, e2, ER.st, if_neg hl]) nb
def vPop (i : Nat) : VE := fun s => match ownL s i with
  | some xs => match xs.getLast? with
    | some y => .ok y (setL s i xs.dropLast)
    | none => .bad
  | none => .bad
theorem Rps.last {A : Nat → Prop} {h : MH} {xs : List PV} {ms : List M} {x : PV} (r : Rps A h xs ms) (e : xs.getLast? = some x) : ∃ m, ms.getLast? = some m ∧ Rp A h x m := by
  rw [List.getLast?_eq_getElem?] at e ⊢
  rw [← r.length]
  exact r.get e
theorem v_pop {i : Nat} (hi : i ∈ own) : ESim Z own false (wBm kPop (wVar i) wNil) (vPop i) := by
  intro A0 ow s sm h r nb Q E k kx
  cases e0 : ownL s i with
  | none => exact absurd (by simp only [vPop, e0]) nb
  | some xs =>
    obtain ⟨n, ms, em, g, q, up⟩ := own_go r hi e0
    cases e1 : xs.getLast? with
    | none => exact absurd (by simp only [vPop, e0, e1]) nb
    | some y =>
      obtain ⟨my, ey, ry⟩ := q.last e1
      obtain ⟨r3, f3⟩ := up xs.dropLast ms.dropLast q.dropLast
      exact ⟨_, em, ⟨n, ms, rfl, by simp only [itemsM, g]⟩, n, ms, my, rfl, rfl, g, ey, k y _ my _ (by simp only [vPop, e0, e1]) r3 f3 (ry.fr f3) fun z => by cases z⟩
def vReverse (i : Nat) : VSt := fun s => match ownL s i with
  | some xs => .nx (setL s i xs.reverse)
  | none => .bad
theorem v_reverse {i : Nat} (hi : i ∈ own) (d : X.nx ⊆ own) : SSim Z own X (wDrop (wBm kReverse (wVar i) wNil)) (vReverse i) := by
  intro A0 ow s sm h r nb D kn kr kb kc kx
  cases e0 : ownL s i with
  | none => exact absurd (by simp only [vReverse, e0]) nb
  | some xs =>
    obtain ⟨n, ms, em, g, q, up⟩ := own_go r hi e0
    obtain ⟨r3, f3⟩ := up xs.reverse ms.reverse q.reverse
    exact ⟨_, em, ⟨n, ms, rfl, by simp only [itemsM, g]⟩, n, ms, rfl, rfl, g, kn _ ow sm _ (by simp only [vReverse, e0]) (Pst.one r3 f3 d)⟩
/-- x[i] = e -/
def vSetSub (a : VE) (i : Nat) (b : VE) : VSt := fun s => (a s).st fun y s1 => match ownL s1 i with
  | some _ => (b s1).st fun x s2 => match x, ownL s2 i with
    | .int z, some xs => match ixN xs.length z with
      | some j => .nx (setL s2 i (xs.set j y))
      | none => .bad
    | _, _ => .bad
  | none => .bad
theorem v_setSub {i : Nat} {n1 : Bool} {wa wb : MTE} {va vb : VE} (hi : i ∈ own) (d : X.nx ⊆ own) (d2 : X.xc ⊆ own) (ha : ESim Z own n1 wa va) (hb : BSim Z own wb vb) : SSim Z own X (wAsgSub wa (wVar i) wb) (vSetSub va i vb) := by
  intro A0 ow s sm h r nb D kn kr kb kc kx
  have na : va s ≠ .bad := fun e => nb (by simp only [vSetSub, e, ER.st])
  refine ha r na _ _ (fun y s1 m1 h1 e1 r1 f1 p1 _ => ?_) (fun y s1 m1 h1 e1 r1 f1 p1 => kx y s1 m1 ow sm h1 (by simp only [vSetSub, e1, ER.st]) (Pst.one r1 f1 d2) (rp_drop p1 d2))
  cases e0 : ownL s1 i with
  | none => exact absurd (by simp only [vSetSub, e1, e0, ER.st]) nb
  | some xs0 =>
    obtain ⟨n, ms, em, g, _, _⟩ := own_go r1 hi e0
    refine ⟨_, em, ?_⟩
    have nb' : vb s1 ≠ .bad := fun e => nb (by simp only [vSetSub, e1, e0, e, ER.st])
    refine hb r1 nb' _ _ (fun x s2 m2 h2 e2 r2 f2 p2 => ?_) (fun x s2 m2 h2 e2 r2 f2 p2 => kx x s2 m2 ow sm h2 (by simp only [vSetSub, e1, e0, e2, ER.st]) (Pst.one r2 (f1.trans f2) d2) (rp_drop p2 d2))
    cases x with
    | int z =>
      cases p2
      cases e3 : ownL s2 i with
      | none => exact absurd (by simp only [vSetSub, e1, e0, e2, e3, ER.st]) nb
      | some xs =>
        obtain ⟨n2, ms2, em2, g2, q2, up⟩ := own_go r2 hi e3
        rw [em] at em2
        cases em2
        cases e4 : ixN xs.length z with
        | none => exact absurd (by simp only [vSetSub, e1, e0, e2, e3, e4, ER.st]) nb
        | some j =>
          obtain ⟨r3, f3⟩ := up (xs.set j y) (ms2.set j m1) (q2.set j (p1.fr f2))
          exact ⟨n, ms2, z, j, rfl, rfl, g2, by rw [← q2.length]; exact e4, kn _ ow sm _ (by simp only [vSetSub, e1, e0, e2, e3, e4, ER.st]) (Pst.one r3 ((f1.trans f2).trans f3) d)⟩
    | _ => exact absurd (by simp only [vSetSub, e1, e0, e2, ER.st]) nb
/-- x[i] op= e -/
def vAugS (f : PV → PV → Option PV) (i : Nat) (b a : VE) : VSt := fun s => match ownL s i with
  | some _ => (b s).st fun x s1 => match x, ownL s1 i with
    | .int z, some xs => match ixN xs.length z with
      | some j => match xs[j]? with
        | some u => (a s1).st fun y s2 => match f u y, ownL s2 i with
          | some v, some ys => if ixN ys.length z = some j then .nx (setL s2 i (ys.set j v)) else .bad
          | _, _ => .bad
        | none => .bad
      | none => .bad
    | _, _ => .bad
  | none => .bad
theorem v_augS {m : MR2} {f : PV → PV → Option PV} {i : Nat} {n1 : Bool} {wa wb : MTE} {va vb : VE} (hi : i ∈ own) (d : X.nx ⊆ own) (d2 : X.xc ⊆ own) (ho : OpSim n1 m f) (hb : BSim Z own wb vb) (ha : BSim Z own wa va) : SSim Z own X (wAugS (wVar i) wb wa m) (vAugS f i vb va) := by
  intro A0 ow s sm h r nb D kn kr kb kc kx
  cases e0 : ownL s i with
  | none => exact absurd (by simp only [vAugS, e0]) nb
  | some xs0 =>
    obtain ⟨n, ms, em, g, _, _⟩ := own_go r hi e0
    refine ⟨_, em, ?_⟩
    have nb' : vb s ≠ .bad := fun e => nb (by simp only [vAugS, e0, e, ER.st])
    refine hb r nb' _ _ (fun x s1 m1 h1 e1 r1 f1 p1 => ?_) (fun x s2 m2 h2 e2 r2 f2 p2 => kx x s2 m2 ow sm h2 (by simp only [vAugS, e0, e2, ER.st]) (Pst.one r2 f2 d2) (rp_drop p2 d2))
    cases x with
    | int z =>
      cases p1
      cases e2 : ownL s1 i with
      | none => exact absurd (by simp only [vAugS, e0, e1, e2, ER.st]) nb
      | some xs =>
        obtain ⟨n2, ms2, em2, g2, q2, _⟩ := own_go r1 hi e2
        rw [em] at em2
        cases em2
        cases e3 : ixN xs.length z with
        | none => exact absurd (by simp only [vAugS, e0, e1, e2, e3, ER.st]) nb
        | some j =>
          cases e4 : xs[j]? with
          | none => exact absurd (by simp only [vAugS, e0, e1, e2, e3, e4, ER.st]) nb
          | some u =>
            obtain ⟨mu, emu, ru⟩ := q2.get e4
            refine ⟨n, ms2, z, j, mu, rfl, rfl, g2, by rw [← q2.length]; exact e3, emu, ?_⟩
            have na : va s1 ≠ .bad := fun e => nb (by simp only [vAugS, e0, e1, e2, e3, e4, e, ER.st])
            refine ha r1 na _ _ (fun y s2 m2 h2 e5 r2 f2 p2 => ?_) (fun x s2 m2 h2 e5 r2 f2 p2 => kx x s2 m2 ow sm h2 (by simp only [vAugS, e0, e1, e2, e3, e4, e5, ER.st]) (Pst.one r2 (f1.trans f2) d2) (rp_drop p2 d2))
            cases e6 : f u y with
            | none => exact absurd (by simp only [vAugS, e0, e1, e2, e3, e4, e5, e6, ER.st]) nb
            | some v =>
              refine ho r2.avs (ru.fr f2).toT p2 e6 _ fun mv h3 o => ?_
              have r3 := r2.pre' o.pre
              cases e7 : ownL s2 i with
              | none => exact absurd (by simp only [vAugS, e0, e1, e2, e3, e4, e5, e6, e7, ER.st]) nb
              | some ys =>
                obtain ⟨n3, ms3, em3, g3, q3, up⟩ := own_go r3 hi e7
                rw [em] at em3
                cases em3
                by_cases hj : ixN ys.length z = some j
                · obtain ⟨r4, f4⟩ := up (ys.set j v) (ms3.set j mv) (q3.set j o.rp)
                  exact ⟨ms3, g3, by rw [← q3.length]; exact hj, kn _ ow sm _ (by simp only [vAugS, e0, e1, e2, e3, e4, e5, e6, e7, ER.st, if_pos hj]) (Pst.one r4 (((f1.trans f2).trans (Fr.pre' o.pre)).trans f4) d)⟩
                · exact absurd (by simp only [vAugS, e0, e1, e2, e3, e4, e5, e6, e7, ER.st, if_neg hj]) nb
    | _ => exact absurd (by simp only [vAugS, e0, e1, ER.st]) nb
def vPar (i j : Nat) (a : VA) : VSt := fun s => (a s).st fun xs s1 => match xs with
  | [x, y] => .nx ((s1.set i (some x)).set j (some y))
  | _ => .bad
def vPar3 (i j l : Nat) (a : VA) : VSt := fun s => (a s).st fun xs s1 => match xs with
  | [x, y, z] => .nx (((s1.set i (some x)).set j (some y)).set l (some z))
  | _ => .bad
theorem v_par {i j : Nat} {wa : MTA} {va : VA} (hi : i ∉ own) (hj : j ∉ own) (d : X.nx ⊆ own) (d2 : X.xc ⊆ own) (ha : ASim Z own wa va) : SSim Z own X (wPar i j wa) (vPar i j va) := by
  intro A0 ow s sm h r nb D kn kr kb kc kx
  have na : va s ≠ .bad := fun e => nb (by simp only [vPar, e, ER.st])
  refine ha r na _ _ (fun x s1 m1 h1 e1 r1 f1 p1 => ?_) (fun x s1 m1 h1 e1 r1 f1 p1 => kx x s1 m1 ow sm h1 (by simp only [vPar, e1, ER.st]) (Pst.one r1 f1 d2) (rp_drop p1 d2))
  match x, e1, p1 with
  | [x, y], e1, p1 =>
    obtain ⟨mx, t, rfl, a, my, t2, rfl, b, e⟩ := p1
    cases e
    exact ⟨mx, my, rfl, kn _ ow _ h1 (by simp only [vPar, e1, ER.st]) (Pst.one ((r1.put hi a).put hj b) f1 d)⟩
  | [], e1, _ => exact absurd (by simp only [vPar, e1, ER.st]) nb
  | [_], e1, _ => exact absurd (by simp only [vPar, e1, ER.st]) nb
  | _ :: _ :: _ :: _, e1, _ => exact absurd (by simp only [vPar, e1, ER.st]) nb
theorem v_par3 {i j l : Nat} {wa : MTA} {va : VA} (hi : i ∉ own) (hj : j ∉ own) (hl : l ∉ own) (d : X.nx ⊆ own) (d2 : X.xc ⊆ own) (ha : ASim Z own wa va) : SSim Z own X (wPar3 i j l wa) (vPar3 i j l va) := by
  intro A0 ow s sm h r nb D kn kr kb kc kx
  have na : va s ≠ .bad := fun e => nb (by simp only [vPar3, e, ER.st])
  refine ha r na _ _ (fun x s1 m1 h1 e1 r1 f1 p1 => ?_) (fun x s1 m1 h1 e1 r1 f1 p1 => kx x s1 m1 ow sm h1 (by simp only [vPar3, e1, ER.st]) (Pst.one r1 f1 d2) (rp_drop p1 d2))
  match x, e1, p1 with
  | [x, y, z], e1, p1 =>
    obtain ⟨mx, t, rfl, a, my, t2, rfl, b, mz, t3, rfl, c, e⟩ := p1
    cases e
    exact ⟨mx, my, mz, rfl, kn _ ow _ h1 (by simp only [vPar3, e1, ER.st]) (Pst.one (((r1.put hi a).put hj b).put hl c) f1 d)⟩
  | [], e1, _ => exact absurd (by simp only [vPar3, e1, ER.st]) nb
  | [_], e1, _ => exact absurd (by simp only [vPar3, e1, ER.st]) nb
  | [_, _], e1, _ => exact absurd (by simp only [vPar3, e1, ER.st]) nb
  | _ :: _ :: _ :: _ :: _, e1, _ => exact absurd (by simp only [vPar3, e1, ER.st]) nb
/-- a pair where the second name (or the first) gets an own object: error, found = None, [] -/
def vParO (i j : Nat) (a : VA) : VSt := fun s => (a s).st fun xs s1 => match xs with
  | [x, y] => if isObj y = true then .nx ((s1.set i (some x)).set j (some y)) else .bad
  | _ => .bad
theorem v_parO {i j : Nat} {n1 : Bool} {wa wb : MTE} {va vb : VE} (hij : i ≠ j) (hi : i ∉ own) (hj : j ∉ own) (hio : j ∉ X.ios) (d : X.nx ⊆ j :: own) (d2 : X.xc ⊆ own) (ha : ESim Z own n1 wa va) (hb : ESim Z own true wb vb) :
    SSim Z own X (wPar i j (wCons wa (wCons wb wNil))) (vParO i j (vCons va (vCons vb vNil))) := by
  intro A0 ow s sm h r nb D kn kr kb kc kx
  have na : va s ≠ .bad := fun e => nb (by simp only [vParO, vCons, e, ER.bind, ER.st])
  refine ha r na _ _ (fun x s1 m1 h1 e1 r1 f1 p1 _ => ?_) (fun x s1 m1 h1 e1 r1 f1 p1 => kx x s1 m1 ow sm h1 (by simp only [vParO, vCons, e1, ER.bind, ER.st]) (Pst.one r1 f1 d2) (rp_drop p1 d2))
  have nb' : vb s1 ≠ .bad := fun e => nb (by simp only [vParO, vCons, e1, e, ER.bind, ER.st])
  refine hb r1 nb' _ _ (fun y s2 m2 h2 e2 r2 f2 p2 n2 => ?_) (fun x s2 m2 h2 e2 r2 f2 p2 => kx x s2 m2 ow sm h2 (by simp only [vParO, vCons, e1, e2, ER.bind, ER.st]) (Pst.one r2 (f1.trans f2) d2) (rp_drop p2 d2))
  refine ⟨m1, m2, rfl, ?_⟩
  have ev : vParO i j (vCons va (vCons vb vNil)) s = if isObj y = true then .nx ((s2.set i (some x)).set j (some y)) else .bad := by simp only [vParO, vCons, vNil, e1, e2, ER.bind, ER.st]
  by_cases ho : isObj y = true
  · rw [if_pos ho] at ev
    obtain ⟨n, rfl⟩ : ∃ n, m2 = .ref n := by
      cases y with
      | lst => obtain ⟨n, _, e, _⟩ := p2; exact ⟨n, e⟩
      | dct => obtain ⟨n, _, e, _⟩ := p2; exact ⟨n, e⟩
      | _ => cases ho
    obtain ⟨hn, a, r3, q⟩ := n2 rfl n rfl
    have px : Rp (Av (Hid A0 n) own ow) h2 x m1 := p1.mono fun k o av ek => ⟨⟨⟨av.1, fun z => by
      have := (List.getElem?_eq_some_iff.mp ek).1
      omega⟩, av.2⟩, (f2.keep k o ek av.2).1⟩
    have r4 := (r3.put hi px).take hj a r3.un_hide q fun k o e => by
      have := (List.getElem?_eq_some_iff.mp (r1.tb k o e).1).1
      omega
    exact kn _ (upw ow j n) _ h2 ev ⟨r4.drop d, ((f1.trans f2).take hj (by have := f1.len; omega)).trans (Fr.drop d), fun p hp => upw_ne fun z => hio (z ▸ hp)⟩
  · exact absurd (by rw [ev, if_neg ho]) nb
def vRaise (x fld : Str) (dV : List PV) (a : VA) : VSt := fun s => (a s).st fun xs s1 => match xs ++ dV with
  | [v] => .xc (.exc x [fld] [v]) s1
  | _ => .bad
theorem v_raise {x fld : Str} {dM : List M} {dV : List PV} {wa : MTA} {va : VA} (hd : ∀ A h, Rps A h dV dM) (d2 : X.xc ⊆ own) (ha : ASim Z own wa va) : SSim Z own X (wRaise x fld dM wa) (vRaise x fld dV va) := by
  intro A0 ow s sm h r nb D kn kr kb kc kx
  have na : va s ≠ .bad := fun e => nb (by simp only [vRaise, e, ER.st])
  refine ha r na _ _ (fun xs s1 m1 h1 e1 r1 f1 p1 => ?_) (fun x s1 m1 h1 e1 r1 f1 p1 => kx x s1 m1 ow sm h1 (by simp only [vRaise, e1, ER.st]) (Pst.one r1 f1 d2) (rp_drop p1 d2))
  have p := p1.append (hd (Av A0 own ow) h1)
  match e : xs ++ dV, p with
  | [v], ⟨m, t, em, a, b⟩ =>
    cases b
    exact ⟨m, em, kx (.exc x [fld] [v]) s1 _ ow sm h1 (by simp only [vRaise, e1, ER.st, e]) (Pst.one r1 f1 d2) (rp_drop ⟨[m], rfl, Rps.one a⟩ d2)⟩
  | [], _ => exact absurd (by simp only [vRaise, e1, ER.st, e]) nb
  | _ :: _ :: _, _ => exact absurd (by simp only [vRaise, e1, ER.st, e]) nb

/-! ### loops -/
def vLoop (g : VG) (b : VSt) : List PV → VSt
  | [] => fun s => .nx s
  | x :: r => fun s => match g x s with
    | none => .bad
    | some s1 => match b s1 with
      | .nx s2 => vLoop g b r s2
      | .ct s2 => vLoop g b r s2
      | .br s2 => .nx s2
      | o => o
def vFor (i : VA) (g : VG) (b : VSt) : VSt := fun s => (i s).st fun xs s1 => vLoop g b xs s1
def vIter (c : VT) (b : VSt) : Nat → VSt
  | 0 => fun _ => .bad
  | n + 1 => fun s => (c s).st fun t s1 => if t = true then (match b s1 with
      | .nx s2 => vIter c b n s2
      | .ct s2 => vIter c b n s2
      | .br s2 => .nx s2
      | o => o) else .nx s1
open Classical in
noncomputable def vWhile (c : VT) (b : VSt) : VSt := fun s => if h : ∃ n, vIter c b n s ≠ .bad then vIter c b h.choose s else .bad
theorem v_for {wi : MTI} {vi : VA} {g : MTG} {vg : VG} {wb : MTS} {vb : VSt} (d : X.nx ⊆ own) (d2 : X.xc ⊆ own) (hi : ISim Z own wi vi) (hg : GSim own g vg) (hb : SSim Z own { X with nx := own, ct := own, br := X.nx } wb vb) : SSim Z own X (wFor wi g wb) (vFor vi vg vb) := by
  intro A0 ow s sm h r nb D kn kr kb kc kx
  have na : vi s ≠ .bad := fun e => nb (by simp only [vFor, e, ER.st])
  refine hi r na _ _ (fun xs s1 ms chk h1 e1 r1 f1 p1 ck => ?_) (fun x s1 m1 h1 e1 r1 f1 p1 => kx x s1 m1 ow sm h1 (by simp only [vFor, e1, ER.st]) (Pst.one r1 f1 d2) (rp_drop p1 d2))
  have ev : vFor vi vg vb s = vLoop vg vb xs s1 := by simp only [vFor, e1, ER.st]
  rw [ev] at nb kn kr kb kc kx
  have p0 := Pst.one (ios := X.ios) r1 f1 (fun _ h => h)
  have key : ∀ (xs : List PV) (ms : List M) (ow1 : Nat → Option Nat) (s1 : VS) (sm1 : MS) (h1 : MH), Rps (Av A0 own ow1) h1 xs ms → (∀ own2 ow2 h2, Fr own ow1 h1 own2 ow2 h2 → chk h2) → Pst Z A0 own ow h X.ios own s1 ow1 sm1 h1 → vLoop vg vb xs s1 ≠ .bad →
      (∀ s' ow' sm' h', vLoop vg vb xs s1 = .nx s' → Pst Z A0 own ow h X.ios X.nx s' ow' sm' h' → D.nx sm' h') →
      (∀ pv s' m ow' sm' h', vLoop vg vb xs s1 = .rt pv s' → Pst Z A0 own ow h X.ios X.ios s' ow' sm' h' → Rp (Av A0 X.ios ow') h' pv m → D.rt m h') →
      (∀ pv s' m ow' sm' h', vLoop vg vb xs s1 = .xc pv s' → Pst Z A0 own ow h X.ios X.xc s' ow' sm' h' → Rp (Av A0 X.xc ow') h' pv m → D.xc m sm' h') → wLoop chk g wb ms D sm1 h1 := by
    intro xs
    induction xs with
    | nil =>
      intro ms ow1 s1 sm1 h1 p ck q nb kn kr kx
      cases p
      exact ⟨ck _ _ _ Fr.refl, kn s1 ow1 sm1 h1 rfl ⟨q.st.drop d, q.fr.trans (Fr.drop d), q.kp⟩⟩
    | cons x xs ih =>
      intro ms ow1 s1 sm1 h1 p ck q nb kn kr kx
      obtain ⟨m, t, rfl, pa, pb⟩ := p
      refine ⟨ck _ _ _ Fr.refl, ?_⟩
      cases eg : vg x s1 with
      | none => exact absurd (by simp only [vLoop, eg]) nb
      | some s2 =>
        refine hg q.st pa eg _ fun sm2 r2 => ?_
        have nb2 : vb s2 ≠ .bad := fun e => nb (by simp only [vLoop, eg, e])
        have again : ∀ s3 ow3 sm3 h3, (vb s2 = .nx s3 ∨ vb s2 = .ct s3) → Pst Z A0 own ow1 h1 X.ios own s3 ow3 sm3 h3 → wLoop chk g wb t D sm3 h3 := fun s3 ow3 sm3 h3 e3 q3 => by
          have ev : vLoop vg vb (x :: xs) s1 = vLoop vg vb xs s3 := by rcases e3 with e3 | e3 <;> simp only [vLoop, eg, e3]
          exact ih t ow3 s3 sm3 h3 (pb.fr q3.fr) (fun own2 ow2 h2 f => ck _ _ _ (q3.fr.trans f)) (q.trans q3) (ev ▸ nb) (fun s' ow' sm' h' e => kn s' ow' sm' h' (ev.trans e)) (fun pv s' m ow' sm' h' e => kr pv s' m ow' sm' h' (ev.trans e)) (fun pv s' m ow' sm' h' e => kx pv s' m ow' sm' h' (ev.trans e))
        refine hb r2 nb2 _ (fun s3 ow3 sm3 h3 e3 q3 => again s3 ow3 sm3 h3 (.inl e3) q3) (fun pv s3 m ow3 sm3 h3 e3 q3 u => kr pv s3 m ow3 sm3 h3 (by simp only [vLoop, eg, e3]) (q.trans q3) u) (fun s3 ow3 sm3 h3 e3 q3 => kn s3 ow3 sm3 h3 (by simp only [vLoop, eg, e3]) (q.trans q3))
          (fun s3 ow3 sm3 h3 e3 q3 => again s3 ow3 sm3 h3 (.inr e3) q3) (fun pv s3 m ow3 sm3 h3 e3 q3 u => kx pv s3 m ow3 sm3 h3 (by simp only [vLoop, eg, e3]) (q.trans q3) u)
  exact key xs ms ow s1 sm h1 p1 ck p0 nb kn kr kx
theorem v_while {wc : MTT} {vc : VT} {wb : MTS} {vb : VSt} (d : X.nx ⊆ own) (d2 : X.xc ⊆ own) (hc : TSim Z own wc vc) (hb : SSim Z own { X with nx := own, ct := own, br := X.nx } wb vb) : SSim Z own X (wWhile wc wb) (vWhile vc vb) := by
  have key : ∀ n, SSim Z own X (wIter wc wb n) (vIter vc vb n) := by
    intro n
    induction n with
    | zero => intro A0 ow s sm h r nb; exact absurd rfl nb
    | succ n ih =>
      intro A0 ow s sm h r nb D kn kr kb kc kx
      have na : vc s ≠ .bad := fun e => nb (by simp only [vIter, e, ER.st])
      refine hc r na _ _ (fun c s1 h1 e1 r1 f1 => ?_) (fun x s1 m1 h1 e1 r1 f1 p1 => kx x s1 m1 ow sm h1 (by simp only [vIter, e1, ER.st]) (Pst.one r1 f1 d2) (rp_drop p1 d2))
      by_cases hcc : c = true
      · rw [if_pos hcc]
        have p1 := Pst.one (ios := X.ios) r1 f1 (fun _ h => h)
        have nb2 : vb s1 ≠ .bad := fun e => nb (by simp only [vIter, e1, ER.st, if_pos hcc, e])
        have again : ∀ s3 ow3 sm3 h3, (vb s1 = .nx s3 ∨ vb s1 = .ct s3) → Pst Z A0 own ow h1 X.ios own s3 ow3 sm3 h3 → wIter wc wb n D sm3 h3 := fun s3 ow3 sm3 h3 e3 q3 => by
          have ev : vIter vc vb (n + 1) s = vIter vc vb n s3 := by rcases e3 with e3 | e3 <;> simp only [vIter, e1, ER.st, if_pos hcc, e3]
          have q := p1.trans q3
          exact ih q.st (ev ▸ nb) D (fun s' ow' sm' h' e z => kn s' ow' sm' h' (ev.trans e) (q.trans z)) (fun pv s' m ow' sm' h' e z u => kr pv s' m ow' sm' h' (ev.trans e) (q.trans z) u) (fun s' ow' sm' h' e z => kb s' ow' sm' h' (ev.trans e) (q.trans z)) (fun s' ow' sm' h' e z => kc s' ow' sm' h' (ev.trans e) (q.trans z))
            (fun pv s' m ow' sm' h' e z u => kx pv s' m ow' sm' h' (ev.trans e) (q.trans z) u)
        exact hb r1 nb2 _ (fun s3 ow3 sm3 h3 e3 q3 => again s3 ow3 sm3 h3 (.inl e3) q3) (fun pv s3 m ow3 sm3 h3 e3 q3 u => kr pv s3 m ow3 sm3 h3 (by simp only [vIter, e1, ER.st, if_pos hcc, e3]) (p1.trans q3) u) (fun s3 ow3 sm3 h3 e3 q3 => kn s3 ow3 sm3 h3 (by simp only [vIter, e1, ER.st, if_pos hcc, e3]) (p1.trans q3))
          (fun s3 ow3 sm3 h3 e3 q3 => again s3 ow3 sm3 h3 (.inr e3) q3) (fun pv s3 m ow3 sm3 h3 e3 q3 u => kx pv s3 m ow3 sm3 h3 (by simp only [vIter, e1, ER.st, if_pos hcc, e3]) (p1.trans q3) u)
      · rw [if_neg hcc]
        exact kn s1 ow sm h1 (by simp only [vIter, e1, ER.st, if_neg hcc]) (Pst.one r1 f1 d)
  intro A0 ow s sm h r nb D kn kr kb kc kx
  by_cases hx : ∃ n, vIter vc vb n s ≠ .bad
  · have ev : vWhile vc vb s = vIter vc vb hx.choose s := dif_pos hx
    exact ⟨hx.choose, key hx.choose r hx.choose_spec D (fun s' ow' sm' h' e z => kn s' ow' sm' h' (ev.trans e) z) (fun pv s' m ow' sm' h' e z u => kr pv s' m ow' sm' h' (ev.trans e) z u) (fun s' ow' sm' h' e z => kb s' ow' sm' h' (ev.trans e) z) (fun s' ow' sm' h' e z => kc s' ow' sm' h' (ev.trans e) z)
      (fun pv s' m ow' sm' h' e z u => kx pv s' m ow' sm' h' (ev.trans e) z u)⟩
  · exact absurd (dif_neg hx) nb
theorem vIter_more {c : VT} {b : VSt} : ∀ (n k : Nat) (s : VS), n ≤ k → vIter c b n s ≠ .bad → vIter c b k s = vIter c b n s
  | 0, _, _, _, h => absurd rfl h
  | n + 1, 0, _, hk, _ => absurd hk (by omega)
  | n + 1, k + 1, s, hk, h => by
    unfold vIter at h ⊢
    cases e : c s with
    | bad => rfl
    | xc => rfl
    | ok t s1 =>
      simp only [e, ER.st] at h ⊢
      by_cases ht : t = true
      · simp only [if_pos ht] at h ⊢
        cases e2 : b s1 with
        | nx s2 => simp only [e2] at h ⊢; exact vIter_more n k s2 (by omega) h
        | ct s2 => simp only [e2] at h ⊢; exact vIter_more n k s2 (by omega) h
        | _ => rfl
      · simp only [if_neg ht]
theorem vWhile_eq {c : VT} {b : VSt} {s : VS} (n : Nat) (h : vIter c b n s ≠ .bad) : vWhile c b s = vIter c b n s := by
  have hx : ∃ n, vIter c b n s ≠ .bad := ⟨n, h⟩
  rw [show vWhile c b s = vIter c b hx.choose s from dif_pos hx]
  by_cases hl : n ≤ hx.choose
  · exact vIter_more n _ s hl h
  · exact (vIter_more _ n s (by omega) hx.choose_spec).symm
end
end Vn
end
section
set_option maxHeartbeats 1000000
namespace Vn
open PySem PySem.Spec PyProof.Rows L2 Mn

/-! ### what is walked -/
def rngV (lo : Int) (n : Nat) : List PV := (List.range n).map fun (i : Nat) => PV.int (lo + i)
def rngCV (lo c : Int) (n : Nat) : List PV := (List.range n).map fun (i : Nat) => PV.int (lo + (i : Int) * c)
def enumV (xs : List PV) : List PV := (List.range xs.length).map fun (i : Nat) => PV.tup [.int (i : Int), xs.getD i .non]
def zipV (xs ys : List PV) : List PV := (xs.zip ys).map fun p => PV.tup [p.1, p.2]
open Classical in
noncomputable def rng1 (xs : List PV) : Option (List PV) := match xs with
  | [.int j] => if Mn.RgOk j then some (rngV 0 j.toNat) else none
  | _ => none
open Classical in
noncomputable def rng2 (xs : List PV) : Option (List PV) := match xs with
  | [.int i, .int j] => if Mn.RgOk i ∧ Mn.RgOk j then some (rngV i (j - i).toNat) else none
  | _ => none
open Classical in
noncomputable def rng3 (xs : List PV) : Option (List PV) := match xs with
  | [.int i, .int j, .int c] => if h : ∃ n, RgC i j c n then some (rngCV i c h.choose) else none
  | _ => none
theorem rng3_eq {i j c : Int} {n : Nat} (h : RgC i j c n) : rng3 [.int i, .int j, .int c] = some (rngCV i c n) := by
  have hx : ∃ n, RgC i j c n := ⟨n, h⟩
  have : hx.choose = n := Int.ofNat_inj.mp (hx.choose_spec.2.2.2.symm.trans h.2.2.2)
  unfold rng3
  simp only [dif_pos hx, this]
def enum1 (xs : List PV) : Option (List PV) := match xs with
  | [x] => (itemsV x).map enumV
  | _ => none
def zip2 (xs : List PV) : Option (List PV) := match xs with
  | [x, y] => (itemsV x).bind fun a => (itemsV y).map fun b => zipV a b
  | _ => none
def vIt (f : List PV → Option (List PV)) (a : VA) : VA := fun s => (a s).bind fun xs s1 => opt (f xs) s1
def vSeqI (a : VE) : VA := fun s => (a s).bind fun x s1 => opt (itemsV x) s1
theorem Rps.range {A : Nat → Prop} {h : MH} (f : Nat → PV) (g : Nat → M) : ∀ (l : List Nat), (∀ i ∈ l, Rp A h (f i) (g i)) → Rps A h (l.map f) (l.map g)
  | [], _ => rfl
  | i :: l, H => ⟨_, _, rfl, H i List.mem_cons_self, Rps.range f g l fun j hj => H j (List.mem_cons_of_mem _ hj)⟩
section
variable {Z : Bs} {own : List Nat}
/-- a sequence that nobody changes -/
theorem seq_of {A0 : Nat → Prop} {ow : Nat → Option Nat} {h : MH} {x : PV} {m : M} {xs : List PV} (r : Rp (Av A0 own ow) h x m) (e : itemsV x = some xs) :
    ∃ ms chk, SeqM h m ms chk ∧ Rps (Av A0 own ow) h xs ms ∧ ∀ own2 ow2 h2, Fr own ow h own2 ow2 h2 → chk h2 := by
  cases x with
  | tup ys => cases e; obtain ⟨ms, rfl, q⟩ := r; exact ⟨ms, _, ⟨rfl, rfl⟩, q, fun _ _ _ _ => trivial⟩
  | lst ys => cases e; obtain ⟨n, ms, rfl, a, g, q⟩ := r; exact ⟨ms, _, .inl ⟨g, rfl⟩, q, fun _ _ _ f => (f.keep n _ g a.2).1⟩
  | rol ys => cases e; obtain ⟨n, ms, rfl, a, g, q⟩ := r; exact ⟨ms, _, .inr ⟨g, rfl⟩, q, fun _ _ _ f => (f.keep n _ g a.2).1⟩
  | _ => cases e
theorem i_rng1 {wa : MTA} {va : VA} (ha : ASim Z own wa va) : ISim Z own (wRng1 wa) (vIt rng1 va) := by
  intro A0 ow s sm h r nb Q E k kx
  have na : va s ≠ .bad := fun e => nb (by simp only [vIt, e, ER.bind])
  refine ha r na _ _ (fun x s1 m1 h1 e1 r1 f1 p1 => ?_) (fun x s1 m1 h1 e1 r1 f1 p1 => kx x s1 m1 h1 (by simp only [vIt, e1, ER.bind]) r1 f1 p1)
  cases e : rng1 x with
  | none => exact absurd (by simp only [vIt, e1, e, ER.bind, opt]) nb
  | some xs =>
    have e' := e
    unfold rng1 at e'
    split at e'
    · split at e'
      · rename_i j hj
        cases e'
        obtain ⟨m, t, rfl, a, b⟩ := p1
        cases a; cases b
        exact ⟨hj, k (rngV 0 j.toNat) s1 _ _ h1 (by simp only [vIt, e1, e, ER.bind, opt]) r1 f1 (Rps.range _ _ _ fun i _ => rfl) fun _ _ _ _ => trivial⟩
      · cases e'
    · cases e'
theorem i_rng2 {wa : MTA} {va : VA} (ha : ASim Z own wa va) : ISim Z own (wRng2 wa) (vIt rng2 va) := by
  intro A0 ow s sm h r nb Q E k kx
  have na : va s ≠ .bad := fun e => nb (by simp only [vIt, e, ER.bind])
  refine ha r na _ _ (fun x s1 m1 h1 e1 r1 f1 p1 => ?_) (fun x s1 m1 h1 e1 r1 f1 p1 => kx x s1 m1 h1 (by simp only [vIt, e1, ER.bind]) r1 f1 p1)
  cases e : rng2 x with
  | none => exact absurd (by simp only [vIt, e1, e, ER.bind, opt]) nb
  | some xs =>
    have e' := e
    unfold rng2 at e'
    split at e'
    · split at e'
      · rename_i i j hj
        cases e'
        obtain ⟨m, t, rfl, a, m2, t2, rfl, b, c⟩ := p1
        cases a; cases b; cases c
        exact ⟨hj.1, hj.2, k (rngV i (j - i).toNat) s1 _ _ h1 (by simp only [vIt, e1, e, ER.bind, opt]) r1 f1 (Rps.range _ _ _ fun i _ => rfl) fun _ _ _ _ => trivial⟩
      · cases e'
    · cases e'
theorem i_rng3 {wa : MTA} {va : VA} (ha : ASim Z own wa va) : ISim Z own (wRng3 wa) (vIt rng3 va) := by
  intro A0 ow s sm h r nb Q E k kx
  have na : va s ≠ .bad := fun e => nb (by simp only [vIt, e, ER.bind])
  refine ha r na _ _ (fun x s1 m1 h1 e1 r1 f1 p1 => ?_) (fun x s1 m1 h1 e1 r1 f1 p1 => kx x s1 m1 h1 (by simp only [vIt, e1, ER.bind]) r1 f1 p1)
  cases e : rng3 x with
  | none => exact absurd (by simp only [vIt, e1, e, ER.bind, opt]) nb
  | some xs =>
    have e' := e
    unfold rng3 at e'
    split at e'
    · split at e'
      · rename_i i j c hj
        cases e'
        obtain ⟨m, t, rfl, a, m2, t2, rfl, b, m3, t3, rfl, c', d⟩ := p1
        cases a; cases b; cases c'; cases d
        exact ⟨i, j, c, hj.choose, rfl, hj.choose_spec, k (rngCV i c hj.choose) s1 _ _ h1 (by simp only [vIt, e1, e, ER.bind, opt]) r1 f1 (Rps.range _ _ _ fun i _ => rfl) fun _ _ _ _ => trivial⟩
      · cases e'
    · cases e'
theorem Rps.getD {A : Nat → Prop} {h : MH} {xs : List PV} {ms : List M} (r : Rps A h xs ms) {i : Nat} (hi : i < xs.length) : Rp A h (xs.getD i .non) (ms.getD i .non) := by
  obtain ⟨m, e, q⟩ := r.get (i := i) (x := xs[i]) (by simp)
  rw [List.getD_eq_getElem?_getD, List.getD_eq_getElem?_getD, e, List.getElem?_eq_getElem hi]
  exact q
theorem i_enum {wa : MTA} {va : VA} (ha : ASim Z own wa va) : ISim Z own (wEnum wa) (vIt enum1 va) := by
  intro A0 ow s sm h r nb Q E k kx
  have na : va s ≠ .bad := fun e => nb (by simp only [vIt, e, ER.bind])
  refine ha r na _ _ (fun x s1 m1 h1 e1 r1 f1 p1 => ?_) (fun x s1 m1 h1 e1 r1 f1 p1 => kx x s1 m1 h1 (by simp only [vIt, e1, ER.bind]) r1 f1 p1)
  cases e : enum1 x with
  | none => exact absurd (by simp only [vIt, e1, e, ER.bind, opt]) nb
  | some xs =>
    have e' := e
    unfold enum1 at e'
    split at e'
    · obtain ⟨ys, h2, rfl⟩ := Option.map_eq_some_iff.mp e'
      obtain ⟨m, t, rfl, a, b⟩ := p1
      cases b
      obtain ⟨ms, chk, sq, rp, ck⟩ := seq_of a h2
      refine ⟨m, ms, chk, rfl, sq, k (enumV ys) s1 _ _ h1 (by simp only [vIt, e1, e, ER.bind, opt]) r1 f1 ?_ ck⟩
      unfold enumV enumM
      rw [← rp.length]
      exact Rps.range _ _ _ fun i hi => ⟨_, rfl, _, _, rfl, rfl, Rps.one (rp.getD (List.mem_range.mp hi))⟩
    · cases e'
theorem Rps.zip {A : Nat → Prop} {h : MH} : ∀ {xs ys : List PV} {ms ns : List M}, Rps A h xs ms → Rps A h ys ns → Rps A h (zipV xs ys) (zipM ms ns)
  | [], _, _, _, r, _ => by cases r; rfl
  | _ :: _, [], _, _, ⟨m, t, e, a, b⟩, r => by subst e; cases r; rfl
  | x :: xs, y :: ys, _, _, ⟨m, t, e, a, b⟩, ⟨n, u, e2, c, d⟩ => by
    subst e; subst e2
    exact ⟨_, _, rfl, ⟨_, rfl, _, _, rfl, a, Rps.one c⟩, Rps.zip b d⟩
theorem i_zip {wa : MTA} {va : VA} (ha : ASim Z own wa va) : ISim Z own (wZip wa) (vIt zip2 va) := by
  intro A0 ow s sm h r nb Q E k kx
  have na : va s ≠ .bad := fun e => nb (by simp only [vIt, e, ER.bind])
  refine ha r na _ _ (fun x s1 m1 h1 e1 r1 f1 p1 => ?_) (fun x s1 m1 h1 e1 r1 f1 p1 => kx x s1 m1 h1 (by simp only [vIt, e1, ER.bind]) r1 f1 p1)
  cases e : zip2 x with
  | none => exact absurd (by simp only [vIt, e1, e, ER.bind, opt]) nb
  | some xs =>
    have e' := e
    unfold zip2 at e'
    split at e'
    · obtain ⟨ys, h2, e'⟩ := Option.bind_eq_some_iff.mp e'
      obtain ⟨zs, h3, rfl⟩ := Option.map_eq_some_iff.mp e'
      obtain ⟨m, t, rfl, a, n, t2, rfl, b, c⟩ := p1
      cases c
      obtain ⟨ms, chk, sq, rp, ck⟩ := seq_of a h2
      obtain ⟨ms2, chk2, sq2, rp2, ck2⟩ := seq_of b h3
      exact ⟨m, n, ms, ms2, chk, chk2, rfl, sq, sq2, k (zipV ys zs) s1 _ _ h1 (by simp only [vIt, e1, e, ER.bind, opt]) r1 f1 (rp.zip rp2) fun _ _ _ f => ⟨ck _ _ _ f, ck2 _ _ _ f⟩⟩
    · cases e'
theorem i_seq {n1 : Bool} {wa : MTE} {va : VE} (ha : ESim Z own n1 wa va) : ISim Z own (wSeqI wa) (vSeqI va) := by
  intro A0 ow s sm h r nb Q E k kx
  have na : va s ≠ .bad := fun e => nb (by simp only [vSeqI, e, ER.bind])
  refine ha r na _ _ (fun x s1 m1 h1 e1 r1 f1 p1 _ => ?_) (fun x s1 m1 h1 e1 r1 f1 p1 => kx x s1 m1 h1 (by simp only [vSeqI, e1, ER.bind]) r1 f1 p1)
  cases e : itemsV x with
  | none => exact absurd (by simp only [vSeqI, e1, e, ER.bind, opt]) nb
  | some xs =>
    obtain ⟨ms, chk, sq, rp, ck⟩ := seq_of p1 e
    exact ⟨ms, chk, sq, k _ s1 _ _ h1 (by simp only [vSeqI, e1, e, ER.bind, opt]) r1 f1 rp ck⟩
end

/-! ### comprehensions -/
def wipeV (s : VS) : List Nat → VS
  | [] => s
  | v :: vs => (wipeV s vs).set v none
/-- the slots vs as they were in s0 -/
def backV (s0 s : VS) : List Nat → VS
  | [] => s
  | v :: vs => (backV s0 s vs).set v (s0[v]?.join)
def vgM (is : List Nat) : VG := fun x s => match x with
  | .tup xs => if xs.length = is.length then some (setM s is xs) else none
  | _ => none
def tgVV : Tg → VG
  | .one i => vgN i
  | .tup is => vgM is
def vCLoop (g : VG) (t : VT) (e : VE) (vs : List Nat) : List PV → List PV → VS → ER (List PV)
  | [], acc, s => .ok acc s
  | x :: r, acc, s => match g x s with
    | none => .bad
    | some s1 => match t s1 with
      | .ok true s2 => match e s2 with
        | .ok y s3 => if acc.length < SZ then vCLoop g t e vs r (acc ++ [y]) (wipeV s3 vs) else .bad
        | _ => .bad
      | .ok false s2 => vCLoop g t e vs r acc (wipeV s2 vs)
      | _ => .bad
def vComp (i : VA) (tg : Tg) (t : VT) (e : VE) (vs : List Nat) : VE := fun s => (i s).bind fun xs s1 => (vCLoop (tgVV tg) t e vs xs [] (wipeV s1 vs)).bind fun ys s2 => .ok (.lst ys) (backV s1 s2 vs)
def vYes : VT := fun s => .ok true s
section
variable {Z : Bs} {own : List Nat} {A0 : Nat → Prop} {ow : Nat → Option Nat} {s : VS} {sm : MS} {h : MH}
theorem t_yes : TSim Z own wYes vYes := fun r nb Q E k kx => k true _ _ rfl r Fr.refl
theorem RSt.wipe (r : RSt Z A0 own ow s sm h) : ∀ {vs : List Nat}, (∀ v ∈ vs, v ∉ own) → RSt Z A0 own ow (wipeV s vs) (wipeM sm vs) h
  | [], _ => r
  | v :: vs, hv => (RSt.wipe r fun u hu => hv u (List.mem_cons_of_mem _ hu)).unset (hv v List.mem_cons_self)
theorem RSt.putM : ∀ {is : List Nat} {xs : List PV} {ms : List M} {s : VS} {sm : MS}, (∀ v ∈ is, v ∉ own) → RSt Z A0 own ow s sm h → Rps (Av A0 own ow) h xs ms → RSt Z A0 own ow (setM s is xs) (setM sm is ms) h
  | [], _, _, _, _, _, r, _ => by simpa [setM] using r
  | i :: is, [], _, _, _, _, r, p => by cases p; simpa [setM] using r
  | i :: is, x :: xs, _, _, _, hv, r, ⟨m, t, e, a, b⟩ => by
    subst e
    exact RSt.putM (is := is) (xs := xs) (ms := t) (fun u hu => hv u (List.mem_cons_of_mem _ hu)) (r.put (hv i List.mem_cons_self) a) b
theorem wipeV_len : ∀ (vs : List Nat), (wipeV s vs).length = s.length
  | [] => rfl
  | v :: vs => by show ((wipeV s vs).set v none).length = _; rw [List.length_set, wipeV_len vs]
theorem backV_len {s0 : VS} : ∀ (vs : List Nat), (backV s0 s vs).length = s.length
  | [] => rfl
  | v :: vs => by show ((backV s0 s vs).set v _).length = _; rw [List.length_set, backV_len vs]
theorem wipeM_at {i : Nat} : ∀ {vs : List Nat}, i ∉ vs → (wipeM sm vs)[i]? = sm[i]?
  | [], _ => rfl
  | v :: vs, hi => by
    show ((wipeM sm vs).set v none)[i]? = _
    rw [List.getElem?_set_ne (fun e : v = i => hi (e ▸ List.mem_cons_self)), wipeM_at fun z => hi (List.mem_cons_of_mem _ z)]
theorem backV_at {s0 : VS} {i : Nat} : ∀ {vs : List Nat}, i ∉ vs → (backV s0 s vs)[i]? = s[i]?
  | [], _ => rfl
  | v :: vs, hi => by
    show ((backV s0 s vs).set v _)[i]? = _
    rw [List.getElem?_set_ne (fun e : v = i => hi (e ▸ List.mem_cons_self)), backV_at fun z => hi (List.mem_cons_of_mem _ z)]
theorem backV_in {s0 : VS} {i : Nat} (hl : s.length = s0.length) : ∀ {vs : List Nat}, i ∈ vs → ∀ {pv : PV}, (backV s0 s vs)[i]? = some (some pv) → s0[i]? = some (some pv)
  | v :: vs, hi, pv, e => by
    have e : ((backV s0 s vs).set v (s0[v]?.join))[i]? = some (some pv) := e
    by_cases hv : v = i
    · subst hv
      have hb : v < (backV s0 s vs).length := by
        have := (List.getElem?_eq_some_iff.mp e).1
        simpa using this
      rw [List.getElem?_set_self hb] at e
      rw [backV_len, hl] at hb
      rw [List.getElem?_eq_getElem hb] at e ⊢
      exact congrArg some (Option.some.inj e)
    · rw [List.getElem?_set_ne hv] at e
      exact backV_in hl ((List.mem_cons.mp hi).resolve_left (Ne.symm hv)) e
/-- behind a comprehension: the slots as they were, the own objects as they are -/
theorem RSt.back {A1 : Nat → Prop} {s0 : VS} {h0 : MH} {vs : List Nat} (hv : ∀ v ∈ vs, v ∉ own) (r0 : RSt Z A1 own ow s0 sm h0) (r : RSt Z A0 own ow s (wipeM sm vs) h) (f : ∀ k o, Av A1 own ow k → h0[k]? = some o → Av A0 own ow k ∧ h[k]? = some o) : RSt Z A0 own ow (backV s0 s vs) sm h := by
  have hwm : ∀ vs : List Nat, (wipeM sm vs).length = sm.length := fun vs => by
    induction vs with
    | nil => rfl
    | cons v vs ih => show ((wipeM sm vs).set v none).length = _; rw [List.length_set, ih]
  have hl : s.length = s0.length := by rw [r.len, r0.len, hwm]
  refine ⟨by rw [backV_len, hl, r0.len], fun i pv hi e => ?_, fun i pv hi e => ?_, r.ex, r.inj, r.fr, r.tb, r.za⟩
  · by_cases hm : i ∈ vs
    · have e0 := backV_in hl hm e
      obtain ⟨m, a, b⟩ := r0.frz i pv hi e0
      exact ⟨m, a, b.mono f⟩
    · rw [backV_at hm] at e
      obtain ⟨m, a, b⟩ := r.frz i pv hi e
      rw [wipeM_at hm] at a
      exact ⟨m, a, b⟩
  · have hm : i ∉ vs := fun z => hv i z hi
    rw [backV_at hm] at e
    obtain ⟨n, a, b, c⟩ := r.ows i pv hi e
    rw [wipeM_at hm] at b
    exact ⟨n, a, b, c⟩
end
section
variable {Z : Bs} {own : List Nat}
theorem tg_sim {tg : Tg} (ht : ∀ v ∈ tg.is, v ∉ own) : GSim own (tgM tg) (tgVV tg) := by
  cases tg with
  | one i => exact vg_n (ht i (by simp [Tg.is]))
  | tup is =>
    intro Z A0 ow s s' sm h x m r p e Q k
    have e : vgM is x s = some s' := e
    unfold vgM at e
    split at e
    · split at e
      · rename_i hl
        cases e
        obtain ⟨ms, rfl, q⟩ := p
        exact ⟨ms, rfl, by rw [← q.length]; exact hl, k _ (r.putM ht q)⟩
      · cases e
    · cases e
theorem wipe_idem {vs : List Nat} {s : MS} : ∀ {us : List Nat}, (∀ v ∈ us, v ∈ vs) → wipeM (wipeM s vs) us = wipeM s vs
  | [], _ => rfl
  | u :: us, hu => by
    show (wipeM (wipeM s vs) us).set u none = _
    rw [wipe_idem fun v hv => hu v (List.mem_cons_of_mem _ hv)]
    have key : ∀ {vs : List Nat}, u ∈ vs → (wipeM s vs).set u none = wipeM s vs := by
      intro vs hm
      induction vs with
      | nil => cases hm
      | cons v vs ih =>
        show ((wipeM s vs).set v none).set u none = (wipeM s vs).set v none
        by_cases e : v = u
        · subst e; rw [List.set_set]
        · rw [List.set_comm _ _ e, ih ((List.mem_cons.mp hm).resolve_left (Ne.symm e))]
    exact key (hu u List.mem_cons_self)
theorem wipe_setM {vs : List Nat} {sm : MS} : ∀ {is : List Nat} {ms : List M} {s : MS}, (∀ i ∈ is, i ∈ vs) → wipeM (setM s is ms) vs = wipeM s vs
  | [], _, s, _ => by simp [setM]
  | i :: is, [], s, _ => by simp [setM]
  | i :: is, m :: ms, s, h => by
    show wipeM (setM (s.set i (some m)) is ms) vs = _
    rw [wipe_setM (vs := vs) (sm := sm) fun j hj => h j (List.mem_cons_of_mem _ hj)]
    have key : ∀ {vs : List Nat} {s : MS}, i ∈ vs → wipeM (s.set i (some m)) vs = wipeM s vs := by
      intro vs
      induction vs with
      | nil => intro s hm; cases hm
      | cons v vs ih =>
        intro s hm
        show (wipeM (s.set i (some m)) vs).set v none = (wipeM s vs).set v none
        by_cases hv : i ∈ vs
        · rw [ih hv]
        · have e : v = i := ((List.mem_cons.mp hm).resolve_right hv).symm
          subst e
          have push : ∀ {vs : List Nat}, v ∉ vs → wipeM (s.set v (some m)) vs = (wipeM s vs).set v (some m) := by
            intro vs
            induction vs with
            | nil => intro _; rfl
            | cons u us ihu =>
              intro hn
              show (wipeM (s.set v (some m)) us).set u none = ((wipeM s us).set u none).set v (some m)
              rw [ihu fun z => hn (List.mem_cons_of_mem _ z), List.set_comm _ _ (fun z : v = u => hn (z ▸ List.mem_cons_self))]
          rw [push hv, List.set_set]
    exact key (h i List.mem_cons_self)
theorem tg_wipe {tg : Tg} {vs : List Nat} {sm sm2 : MS} {h : MH} {m : M} (hv : ∀ i ∈ tg.is, i ∈ vs) {Q : MS → MH → Prop} (q : tgM tg m sm h Q) : tgM tg m sm h fun sm2 h2 => Q sm2 h2 ∧ wipeM sm2 vs = wipeM sm vs ∧ h2 = h := by
  cases tg with
  | one i => exact ⟨q, wipe_setM (sm := sm) (is := [i]) (ms := [m]) hv, rfl⟩
  | tup is => obtain ⟨xs, e, l, q⟩ := q; exact ⟨xs, e, l, q, wipe_setM (sm := sm) hv, rfl⟩
theorem tg_mono {tg : Tg} {sm : MS} {h : MH} {m : M} {Q Q' : MS → MH → Prop} (q : tgM tg m sm h Q) (i : ∀ sm h, Q sm h → Q' sm h) : tgM tg m sm h Q' := by
  cases tg with
  | one j => exact i _ _ q
  | tup is => obtain ⟨xs, e, l, q⟩ := q; exact ⟨xs, e, l, i _ _ q⟩
theorem v_comp {wi : MTI} {vi : VA} {tg : Tg} {wt : MTT} {vt : VT} {we : MTE} {ve : VE} {vs : List Nat} {n1 : Bool} (hv : ∀ i ∈ tg.is, i ∈ vs) (ho : ∀ v ∈ vs, v ∉ own) (hi : ISim Z own wi vi) (ht : TSim Z own wt vt) (he : ESim Z own n1 we ve) :
    ESim Z own true (wComp wi tg wt we vs) (vComp vi tg vt ve vs) := by
  intro A0 ow s sm h r nb Q E k kx
  have na : vi s ≠ .bad := fun e => nb (by simp only [vComp, e, ER.bind])
  refine hi r na _ _ (fun xs s1 ms chk h1 e1 r1 f1 p1 ck => ?_) (fun x s1 m1 h1 e1 r1 f1 p1 => kx x s1 m1 h1 (by simp only [vComp, e1, ER.bind]) r1 f1 p1)
  have pre : h1 <+: h1 ++ [O.lst []] := List.prefix_append _ _
  have hl1 : h1.length < (h1 ++ [O.lst []]).length := by simp
  have r2 : RSt Z (Hid A0 h1.length) own ow s1 sm (h1 ++ [O.lst []]) := r1.hide pre (Nat.le_refl _) hl1
  have fn : Fr own ow h1 own ow (h1 ++ [O.lst []]) := Fr.pre' pre
  have hid : ∀ {xs : List PV} {ms : List M}, Rps (Av A0 own ow) h1 xs ms → Rps (Av (Hid A0 h1.length) own ow) (h1 ++ [O.lst []]) xs ms := fun p => p.mono fun n o a e => ⟨⟨⟨a.1, fun z => by
    have := (List.getElem?_eq_some_iff.mp e).1
    omega⟩, a.2⟩, get_pre pre e⟩
  have ev : vComp vi tg vt ve vs s = (vCLoop (tgVV tg) vt ve vs xs [] (wipeV s1 vs)).bind fun ys s2 => .ok (.lst ys) (backV s1 s2 vs) := by simp only [vComp, e1, ER.bind]
  have key : ∀ (xs : List PV) (ms : List M) (acc : List PV) (am : List M) (s2 : VS) (h2 : MH), Rps (Av (Hid A0 h1.length) own ow) h2 xs ms → Rps (Av (Hid A0 h1.length) own ow) h2 acc am → h2[h1.length]? = some (.lst am) → RSt Z (Hid A0 h1.length) own ow s2 (wipeM sm vs) h2 → Fr own ow h1 own ow h2 →
      vCLoop (tgVV tg) vt ve vs xs acc s2 ≠ .bad → (∀ ys s3 am h3, vCLoop (tgVV tg) vt ve vs xs acc s2 = .ok ys s3 → Rps (Av (Hid A0 h1.length) own ow) h3 ys am → h3[h1.length]? = some (.lst am) → RSt Z (Hid A0 h1.length) own ow s3 (wipeM sm vs) h3 → Fr own ow h1 own ow h3 → Q (.ref h1.length) h3) →
      cLoop chk (tgM tg) wt we (wipeM sm vs) h1.length (fun _ h2 => Q (.ref h1.length) h2) ms am h2 := by
    intro xs
    induction xs with
    | nil =>
      intro ms acc am s2 h2 p pa g r f nb k
      cases p
      exact ⟨ck _ _ _ f, g, k acc s2 am h2 rfl pa g r f⟩
    | cons x xs ih =>
      intro ms acc am s2 h2 p pa g r f nb k
      obtain ⟨m, t, rfl, px, pr⟩ := p
      refine ⟨ck _ _ _ f, ?_⟩
      have un : Un own ow h1.length := r.un_hide
      cases eg : tgVV tg x s2 with
      | none => exact absurd (by simp only [vCLoop, eg]) nb
      | some s3 =>
        have st := tg_sim (fun v hv' => ho v (hv v hv')) r px eg (fun sm3 h3 => h3 = h2 ∧ RSt Z (Hid A0 h1.length) own ow s3 sm3 h2) fun sm3 r3 => ⟨rfl, r3⟩
        refine tg_mono (tg_wipe (vs := vs) (sm2 := sm) hv st) fun sm3 h3 ⟨⟨e3, r3⟩, w3, _⟩ => ?_
        subst e3
        rw [wipe_idem fun v hv => hv] at w3
        have nt : vt s3 ≠ .bad := fun e => nb (by simp only [vCLoop, eg, e])
        refine ht r3 nt _ _ (fun b s4 h4 e4 r4 f4 => ?_) (fun x s4 m4 h4 e4 r4 f4 p4 => absurd (by simp only [vCLoop, eg, e4]) nb)
        have g4 := (f4.keep _ _ g un).1
        cases b with
        | true =>
          rw [if_pos rfl]
          have ne : ve s4 ≠ .bad := fun e => nb (by simp only [vCLoop, eg, e4, e])
          refine he r4 ne _ _ (fun y s5 m5 h5 e5 r5 f5 p5 _ => ?_) (fun x s5 m5 h5 e5 r5 f5 p5 => absurd (by simp only [vCLoop, eg, e4, e5]) nb)
          have g5 := (f5.keep _ _ g4 un).1
          have hlt : h1.length < h5.length := (List.getElem?_eq_some_iff.mp g5).1
          by_cases hz : acc.length < SZ
          · have f6 := f4.trans f5
            have mv : ∀ k o, Av (Hid A0 h1.length) own ow k → h5[k]? = some o → Av (Hid A0 h1.length) own ow k ∧ (h5.set h1.length (.lst (am ++ [m5])))[k]? = some o := fun k o a e => ⟨a, by rw [List.getElem?_set_ne (fun z => a.1.2 z.symm)]; exact e⟩
            have fs : Fr own ow h1 own ow (h5.set h1.length (.lst (am ++ [m5]))) := ⟨by simpa using Nat.le_of_lt hlt, fun k o e u => ⟨by
              rw [List.getElem?_set_ne]
              · exact ((f.trans f6).keep k o e u).1
              · intro z
                have := (List.getElem?_eq_some_iff.mp e).1
                omega, u⟩⟩
            have rs : RSt Z (Hid A0 h1.length) own ow s5 sm3 (h5.set h1.length (.lst (am ++ [m5]))) := ⟨r5.len, fun i pv hi e => let ⟨m, a, b⟩ := r5.frz i pv hi e; ⟨m, a, b.mono mv⟩, fun i pv hi e => let ⟨n, a, b, c⟩ := r5.ows i pv hi e; ⟨n, a, b, c.mono mv (by rw [List.getElem?_set_ne]; rintro rfl; exact un i hi a)⟩,
              fun i n hi e => let ⟨a, o, g, m⟩ := r5.ex i n hi e; ⟨a, o, by rw [List.getElem?_set_ne (fun z => a.2 z.symm)]; exact g, m⟩, r5.inj, fun n hn => r5.fr n (by simpa using hn), fun k o e => ⟨by
                rw [List.getElem?_set_ne]
                · exact (r5.tb k o e).1
                · intro z
                  have := (List.getElem?_eq_some_iff.mp (r1.tb k o e).1).1
                  omega, (r5.tb k o e).2⟩, fun k e => ⟨(r5.za k e).1, by simpa using (r5.za k e).2⟩⟩
            have rw_ := rs.wipe ho
            rw [w3] at rw_
            have ev2 : vCLoop (tgVV tg) vt ve vs (x :: xs) acc s2 = vCLoop (tgVV tg) vt ve vs xs (acc ++ [y]) (wipeV s5 vs) := by simp only [vCLoop, eg, e4, e5, if_pos hz]
            refine ⟨g5, by rw [← pa.length]; exact hz, ih t (acc ++ [y]) (am ++ [m5]) (wipeV s5 vs) _ ((pr.fr f6).mono mv) (((pa.fr f6).append (Rps.one p5)).mono mv) (List.getElem?_set_self hlt) rw_ fs (ev2 ▸ nb) fun ys s6 am6 h6 e6 => k ys s6 am6 h6 (ev2.trans e6)⟩
          · exact absurd (by simp only [vCLoop, eg, e4, e5, if_neg hz]) nb
        | false =>
          rw [if_neg (by decide)]
          have rw_ := r4.wipe ho
          rw [w3] at rw_
          have ev2 : vCLoop (tgVV tg) vt ve vs (x :: xs) acc s2 = vCLoop (tgVV tg) vt ve vs xs acc (wipeV s4 vs) := by simp only [vCLoop, eg, e4]
          exact ih t acc am (wipeV s4 vs) h4 (pr.fr f4) (pa.fr f4) g4 rw_ (f.trans f4) (ev2 ▸ nb) fun ys s6 am6 h6 e6 => k ys s6 am6 h6 (ev2.trans e6)
  have nc : vCLoop (tgVV tg) vt ve vs xs [] (wipeV s1 vs) ≠ .bad := fun e => nb (by rw [ev, e]; rfl)
  refine key xs ms [] [] (wipeV s1 vs) _ (hid p1) rfl (by simp) (r2.wipe ho) fn nc fun ys s3 am h3 e3 py g3 r3 f3 => ?_
  have rb : RSt Z (Hid A0 h1.length) own ow (backV s1 s3 vs) sm h3 := RSt.back ho r1 r3 fun k o a e => ⟨⟨⟨a.1, fun z => by
    have := (List.getElem?_eq_some_iff.mp e).1
    omega⟩, a.2⟩, (f3.keep k o e a.2).1⟩
  refine k (.lst ys) (backV s1 s3 vs) (.ref h1.length) h3 (by rw [ev, e3]; rfl) (rb.show (r1.fr _ (Nat.le_refl _))) (f1.trans f3) ⟨h1.length, am, rfl, ⟨r1.fr _ (Nat.le_refl _), r3.un_hide⟩, g3, py.mono fun n o a e => ⟨⟨a.1.1, a.2⟩, e⟩⟩ fun _ n e => ?_
  cases e
  exact ⟨f1.len, r1.fr _ (Nat.le_refl _), rb, am, g3, py⟩
end
end Vn
end
section
set_option maxHeartbeats 1000000
namespace Vn
open PySem PySem.Spec PyProof.Rows L2 Mn

/-! ### a def -/
structure Fin (A : Nat → Prop) (ios : List Nat) (ow : Nat → Option Nat) (h : MH) (outs : List PV) (h' : MH) : Prop where
  fr : Fr ios ow h ios ow h'
  out : ∀ (k p : Nat), ios[k]? = some p → ∃ n pv, ow p = some n ∧ outs[k]? = some pv ∧ RpO (Av A ios ow) h' pv n
def FSim (Z : Bs) (ios : List Nat) (r : MSp) (vf : VF) : Prop := ∀ {A : Nat → Prop} {ow : Nat → Option Nat} {args : List PV} {ms : List M} {h : MH}, RSt Z A ios ow (args.map some) (ms.map some) h → vf args ≠ .bad → ∀ Q E : KM,
  (∀ v outs m h', vf args = .ok v outs → Fin A ios ow h outs h' → Rp (Av A ios ow) h' v m → Q m h') →
  (∀ v outs m h', vf args = .xc v outs → Fin A ios ow h outs h' → Rp (Av A ios ow) h' v m → E m h') → r ms h Q E
def startV (N : Nat) (xs : List PV) : VS := xs.map some ++ List.replicate (N - xs.length) none
def ioOut (ios : List Nat) (s : VS) : List PV := ios.map fun p => (s[p]?.join).getD .non
def ioAll (ios : List Nat) (s : VS) : Bool := ios.all fun p => (s[p]?.join).isSome
def finV (ios : List Nat) (r : SR) : FR := match r with
  | .nx s => if ioAll ios s = true then .ok .non (ioOut ios s) else .bad
  | .rt v s => if ioAll ios s = true then .ok v (ioOut ios s) else .bad
  | .xc e s => if ioAll ios s = true then .xc e (ioOut ios s) else .bad
  | _ => .bad
def runV (N n : Nat) (ios : List Nat) (b : VSt) : VF := fun args => if args.length = n then finV ios (b (startV N args)) else .bad
section
variable {Z : Bs} {ios : List Nat}
theorem RSt.start {A : Nat → Prop} {ow : Nat → Option Nat} {args : List PV} {ms : List M} {h : MH} (r : RSt Z A ios ow (args.map some) (ms.map some) h) (N : List Str) : RSt Z A ios ow (startV N.length args) (startM N ms) h := by
  have l : args.length = ms.length := by simpa using r.len
  have at1 : ∀ i pv, (startV N.length args)[i]? = some (some pv) → (args.map some)[i]? = some (some pv) := fun i pv e => by
    unfold startV at e
    by_cases hi : i < (args.map some).length
    · rw [List.getElem?_append_left hi] at e; exact e
    · rw [List.getElem?_append_right (by omega), List.getElem?_replicate] at e
      split at e <;> cases e
  have at2 : ∀ i (m : M), (ms.map some)[i]? = some (some m) → (startM N ms)[i]? = some (some m) := fun i m e => by
    unfold startM
    rw [List.getElem?_append_left (List.getElem?_eq_some_iff.mp e).1]; exact e
  refine ⟨by simp [startV, startM, l], fun i pv hi e => ?_, fun i pv hi e => ?_, r.ex, r.inj, r.fr, r.tb, r.za⟩
  · obtain ⟨m, a, b⟩ := r.frz i pv hi (at1 i pv e)
    exact ⟨m, at2 i m a, b⟩
  · obtain ⟨n, a, b, c⟩ := r.ows i pv hi (at1 i pv e)
    exact ⟨n, a, at2 i _ b, c⟩
theorem f_run {N : List Str} {n : Nat} {w : MTS} {v : VSt} (hs : SSim Z ios { nx := ios, br := ios, ct := ios, xc := ios, ios := ios } w v) : FSim Z ios (runM N n w) (runV N.length n ios v) := by
  intro A ow args ms h r nb Q E k kx
  unfold runV at nb k kx
  have l : args.length = ms.length := by simpa using r.len
  by_cases hl : args.length = n
  · rw [if_pos hl] at nb k kx
    refine ⟨by rw [← l]; exact hl, ?_⟩
    have nv : v (startV N.length args) ≠ .bad := fun e => nb (by rw [e]; rfl)
    have fin : ∀ s' ow' sm' h', Pst Z A ios ow h ios ios s' ow' sm' h' → ioAll ios s' = true → Fin A ios ow h (ioOut ios s') h' ∧ ∀ pv m, Rp (Av A ios ow') h' pv m → Rp (Av A ios ow) h' pv m := fun s' ow' sm' h' p ha => by
      have un : ∀ n, Un ios ow' n → Un ios ow n := fun n u i hi => by rw [← p.kp i hi]; exact u i hi
      have un' : ∀ n, Un ios ow n → Un ios ow' n := fun n u i hi => by rw [p.kp i hi]; exact u i hi
      have mv : ∀ k o, Av A ios ow' k → h'[k]? = some o → Av A ios ow k ∧ h'[k]? = some o := fun k o a e => ⟨⟨a.1, un _ a.2⟩, e⟩
      refine ⟨⟨⟨p.fr.len, fun n o e u => ⟨(p.fr.keep n o e u).1, u⟩⟩, fun k i hk => ?_⟩, fun pv m q => q.mono mv⟩
      have hi : i ∈ ios := List.mem_of_getElem? hk
      have hs := List.all_eq_true.mp ha i hi
      obtain ⟨pv, hp⟩ := Option.isSome_iff_exists.mp hs
      have e : s'[i]? = some (some pv) := by
        cases q : s'[i]? with
        | none => rw [q] at hp; cases hp
        | some o => rw [q] at hp; rw [show o = some pv from hp]
      obtain ⟨n, a, b, c⟩ := p.st.ows i pv hi e
      refine ⟨n, pv, by rw [← p.kp i hi]; exact a, ?_, c.mono mv rfl⟩
      unfold ioOut
      rw [List.getElem?_map, hk]
      show some ((s'[i]?.join).getD .non) = _
      rw [e]; rfl
    refine hs (r.start N) nv _ (fun s' ow' sm' h' e p => ?_) (fun pv s' m ow' sm' h' e p q => ?_) (fun s' ow' sm' h' e p => absurd (by rw [e]; rfl) nb) (fun s' ow' sm' h' e p => absurd (by rw [e]; rfl) nb) (fun pv s' m ow' sm' h' e p q => ?_)
    · by_cases ha : ioAll ios s' = true
      · exact k .non _ _ h' (by rw [e]; exact if_pos ha) (fin _ _ _ _ p ha).1 rfl
      · exact absurd (by rw [e]; exact if_neg ha) nb
    · by_cases ha : ioAll ios s' = true
      · exact k pv _ _ h' (by rw [e]; exact if_pos ha) (fin _ _ _ _ p ha).1 ((fin _ _ _ _ p ha).2 _ _ q)
      · exact absurd (by rw [e]; exact if_neg ha) nb
    · by_cases ha : ioAll ios s' = true
      · exact kx pv _ _ h' (by rw [e]; exact if_pos ha) (fin _ _ _ _ p ha).1 ((fin _ _ _ _ p ha).2 _ _ q)
      · exact absurd (by rw [e]; exact if_neg ha) nb
  · exact absurd (if_neg hl) nb
end

/-! ### a call -/
/-- arguments; sp tells which of them are a name's own object -/
def RpC (A : Nat → Prop) (h : MH) (s : VS) (sm : MS) : List (Option Nat) → List PV → List M → Prop
  | [], xs, ms => xs = [] ∧ ms = []
  | none :: sp, xs, ms => ∃ x t m u, xs = x :: t ∧ ms = m :: u ∧ Rp A h x m ∧ RpC A h s sm sp t u
  | some i :: sp, xs, ms => ∃ x t m u, xs = x :: t ∧ ms = m :: u ∧ s[i]? = some (some x) ∧ sm[i]? = some (some m) ∧ RpC A h s sm sp t u
def CSim (Z : Bs) (own : List Nat) (sp : List (Option Nat)) (w : MTA) (v : VA) : Prop := ∀ {A0 : Nat → Prop} {ow : Nat → Option Nat} {s : VS} {sm : MS} {h : MH}, RSt Z A0 own ow s sm h → v s ≠ .bad → ∀ (Q : List M → MH → Prop) (E : KM),
  (∀ pv s' m h', v s = .ok pv s' → RSt Z A0 own ow s' sm h' → Fr own ow h own ow h' → RpC (Av A0 own ow) h' s' sm sp pv m → Q m h') →
  (∀ pv s' m h', v s = .xc pv s' → RSt Z A0 own ow s' sm h' → Fr own ow h own ow h' → Rp (Av A0 own ow) h' pv m → E m h') → w sm h Q E
section
variable {Z : Bs} {own : List Nat}
theorem RpC.len {A : Nat → Prop} {h : MH} {s : VS} {sm : MS} : ∀ {sp : List (Option Nat)} {xs : List PV} {ms : List M}, RpC A h s sm sp xs ms → xs.length = sp.length ∧ ms.length = sp.length
  | [], _, _, ⟨a, b⟩ => by subst a; subst b; exact ⟨rfl, rfl⟩
  | none :: sp, _, _, ⟨x, t, m, u, a, b, _, r⟩ => by subst a; subst b; have := RpC.len r; simp [this]
  | some i :: sp, _, _, ⟨x, t, m, u, a, b, _, _, r⟩ => by subst a; subst b; have := RpC.len r; simp [this]
theorem RpC.get {A : Nat → Prop} {h : MH} {s : VS} {sm : MS} : ∀ {sp : List (Option Nat)} {xs : List PV} {ms : List M} {p : Nat} {x : PV}, RpC A h s sm sp xs ms → xs[p]? = some x → ∃ m, ms[p]? = some m ∧ ((sp[p]? = some none ∧ Rp A h x m) ∨ ∃ i, sp[p]? = some (some i) ∧ s[i]? = some (some x) ∧ sm[i]? = some (some m))
  | [], _, _, p, x, ⟨a, b⟩, e => by subst a; simp at e
  | none :: sp, _, _, 0, x, ⟨y, t, m, u, a, b, q, r⟩, e => by subst a; subst b; simp at e; subst e; exact ⟨m, rfl, .inl ⟨rfl, q⟩⟩
  | some i :: sp, _, _, 0, x, ⟨y, t, m, u, a, b, q, q2, r⟩, e => by subst a; subst b; simp at e; subst e; exact ⟨m, rfl, .inr ⟨i, rfl, q, q2⟩⟩
  | none :: sp, _, _, p + 1, x, ⟨y, t, m, u, a, b, q, r⟩, e => by
    subst a; subst b
    obtain ⟨m2, e1, e2⟩ := RpC.get (p := p) r (by simpa using e)
    exact ⟨m2, by simpa using e1, by simpa using e2⟩
  | some i :: sp, _, _, p + 1, x, ⟨y, t, m, u, a, b, q, q2, r⟩, e => by
    subst a; subst b
    obtain ⟨m2, e1, e2⟩ := RpC.get (p := p) r (by simpa using e)
    exact ⟨m2, by simpa using e1, by simpa using e2⟩
theorem RpC.of {A : Nat → Prop} {h : MH} {s : VS} {sm : MS} : ∀ {sp : List (Option Nat)} {xs : List PV} {ms : List M}, xs.length = sp.length → ms.length = sp.length → (∀ (p : Nat) (x : PV), xs[p]? = some x → ∃ m, ms[p]? = some m ∧ ((sp[p]? = some none ∧ Rp A h x m) ∨ ∃ i : Nat, sp[p]? = some (some i) ∧ s[i]? = some (some x) ∧ sm[i]? = some (some m))) → RpC A h s sm sp xs ms
  | [], xs, ms, l1, l2, _ => ⟨List.eq_nil_of_length_eq_zero l1, List.eq_nil_of_length_eq_zero l2⟩
  | sp0 :: sp, [], ms, l1, _, _ => by simp at l1
  | sp0 :: sp, x :: xs, [], _, l2, _ => by simp at l2
  | sp0 :: sp, x :: xs, m :: ms, l1, l2, H => by
    obtain ⟨m0, e0, q0⟩ := H 0 x rfl
    have em : m = m0 := by simpa using e0
    subst em
    have rest : RpC A h s sm sp xs ms := RpC.of (by simpa using l1) (by simpa using l2) fun p y e => by
      obtain ⟨m1, e1, q1⟩ := H (p + 1) y (by simpa using e)
      exact ⟨m1, by simpa using e1, by simpa using q1⟩
    cases sp0 with
    | none =>
      rcases q0 with ⟨_, q⟩ | ⟨i, z, _⟩
      · exact ⟨x, xs, m, ms, rfl, rfl, q, rest⟩
      · simp at z
    | some i =>
      rcases q0 with ⟨z, _⟩ | ⟨j, z, q, q2⟩
      · simp at z
      · have : i = j := by simpa using z
        subst this
        exact ⟨x, xs, m, ms, rfl, rfl, q, q2, rest⟩
theorem c_nil : CSim Z own [] wNil vNil := fun r nb Q E k kx => k [] _ [] _ rfl r Fr.refl ⟨rfl, rfl⟩
theorem RpC.fr {A0 : Nat → Prop} {ow : Nat → Option Nat} {h h' : MH} {s : VS} {sm : MS} (f : Fr own ow h own ow h') : ∀ {sp : List (Option Nat)} {xs : List PV} {ms : List M}, RpC (Av A0 own ow) h s sm sp xs ms → RpC (Av A0 own ow) h' s sm sp xs ms
  | [], _, _, r => r
  | none :: sp, _, _, ⟨x, t, m, u, a, b, q, r⟩ => ⟨x, t, m, u, a, b, q.fr f, RpC.fr f r⟩
  | some i :: sp, _, _, ⟨x, t, m, u, a, b, q, q2, r⟩ => ⟨x, t, m, u, a, b, q, q2, RpC.fr f r⟩
theorem c_cons {sp : List (Option Nat)} {wa : MTE} {va : VE} {wr : MTA} {vr : VA} {n1 : Bool} (ha : ESim Z own n1 wa va) (hr : CSim Z own sp wr vr) : CSim Z own (none :: sp) (wCons wa wr) (vCons va vr) := by
  intro A0 ow s sm h r nb Q E k kx
  have na : va s ≠ .bad := fun e => nb (by simp only [vCons, e, ER.bind])
  refine ha r na _ _ (fun x s1 m1 h1 e1 r1 f1 p1 _ => ?_) (fun x s1 m1 h1 e1 r1 f1 p1 => kx x s1 m1 h1 (by simp only [vCons, e1, ER.bind]) r1 f1 p1)
  have nb' : vr s1 ≠ .bad := fun e => nb (by simp only [vCons, e1, e, ER.bind])
  exact hr r1 nb' _ _ (fun y s2 m2 h2 e2 r2 f2 p2 => k (x :: y) s2 _ h2 (by simp only [vCons, e1, e2, ER.bind]) r2 (f1.trans f2) ⟨x, y, m1, m2, rfl, rfl, p1.fr f2, p2⟩) (fun y s2 m2 h2 e2 r2 f2 p2 => kx y s2 m2 h2 (by simp only [vCons, e1, e2, ER.bind]) r2 (f1.trans f2) p2)
theorem c_own {i : Nat} {sp : List (Option Nat)} {wr : MTA} {vr : VA} (hr : CSim Z own sp wr vr) : CSim Z own (some i :: sp) (wCons (wVar i) wr) (vConsL i vr) := by
  intro A0 ow s sm h r nb Q E k kx
  obtain ⟨v0, e0, e0'⟩ := var_ok (s := s) (i := i) fun e => nb (by simp only [vConsL, e, ER.bind])
  obtain ⟨m0, em0, _⟩ := r.slot e0
  refine ⟨m0, em0, ?_⟩
  have nb' : vr s ≠ .bad := fun e => nb (by simp only [vConsL, e0', e, ER.bind])
  refine hr r nb' _ _ (fun y s1 m1 h1 e1 r1 f1 p1 => ?_) (fun y s1 m1 h1 e1 r1 f1 p1 => kx y s1 m1 h1 (by simp only [vConsL, e0', e1, ER.bind]) r1 f1 p1)
  obtain ⟨v, e2, e2'⟩ := var_ok (s := s1) (i := i) fun e => nb (by simp only [vConsL, e0', e1, e, ER.bind])
  exact k (v :: y) s1 _ h1 (by simp only [vConsL, e0', e1, e2', ER.bind]) r1 f1 ⟨v, y, m0, m1, rfl, rfl, e2, em0, p1⟩
def FR.toE (r : FR) (s : VS) (slots : List Nat) : ER PV := match r with
  | .ok v o => .ok v (setM s slots o)
  | .xc e o => .xc e (setM s slots o)
  | .bad => .bad
def vCall (vf : VF) (slots : List Nat) (a : VA) : VE := fun s => (a s).bind fun xs s1 => (vf xs).toE s1 slots
def SpOk (sp : List (Option Nat)) (ios slots : List Nat) : Bool := decide (ios.length = slots.length) && (ios.map fun p => (sp[p]?).join) == slots.map some && (List.range sp.length).all (fun p => if (sp[p]?).join = none then !ios.contains p else ios.contains p) && decide slots.Nodup
theorem setM_ne {s : VS} {i : Nat} : ∀ {is : List Nat} {xs : List PV}, i ∉ is → (setM s is xs)[i]? = s[i]?
  | [], xs, _ => by simp [setM]
  | j :: is, [], _ => by simp [setM]
  | j :: is, x :: xs, h => by
    show (setM (s.set j (some x)) is xs)[i]? = _
    rw [setM_ne (s := s.set j (some x)) (is := is) (xs := xs) (fun z => h (List.mem_cons_of_mem _ z)), List.getElem?_set_ne (fun z : j = i => h (z ▸ List.mem_cons_self))]
theorem setM_len {s : VS} : ∀ {is : List Nat} {xs : List PV}, (setM s is xs).length = s.length
  | [], xs => by simp [setM]
  | j :: is, [] => by simp [setM]
  | j :: is, x :: xs => by
    show (setM (s.set j (some x)) is xs).length = _
    rw [setM_len (is := is) (xs := xs), List.length_set]
theorem setM_at {s : VS} : ∀ {is : List Nat} {xs : List PV} {k i : Nat} {x : PV}, is.Nodup → is[k]? = some i → xs[k]? = some x → i < s.length → (setM s is xs)[i]? = some (some x)
  | [], xs, k, i, x, _, e, _, _ => by simp at e
  | j :: is, [], k, i, x, _, _, e, _ => by simp at e
  | j :: is, y :: xs, 0, i, x, hn, e1, e2, hl => by
    have e1 : j = i := by simpa using e1
    have e2 : y = x := by simpa using e2
    subst e1; subst e2
    show (setM (s.set j (some y)) is xs)[j]? = _
    rw [setM_ne (List.nodup_cons.mp hn).1, List.getElem?_set_self hl]
  | j :: is, y :: xs, k + 1, i, x, hn, e1, e2, hl => by
    show (setM (s.set j (some y)) is xs)[i]? = _
    exact setM_at (is := is) (List.nodup_cons.mp hn).2 (by simpa using e1) (by simpa using e2) (by simpa using hl)
/-- the callee's view of a caller's heap -/
theorem call_in {A0 : Nat → Prop} {ow : Nat → Option Nat} {s : VS} {sm : MS} {h : MH} {sp : List (Option Nat)} {ios slots : List Nat} {xs : List PV} {ms : List M} (hsp : SpOk sp ios slots = true) (ho : ∀ i ∈ slots, i ∈ own) (r : RSt Z A0 own ow s sm h) (p : RpC (Av A0 own ow) h s sm sp xs ms)
    {Q E : KM} {rr : MSp} {vf : VF} (hf : FSim Z ios rr vf) (nb : vf xs ≠ .bad)
    (k : ∀ v o m h', vf xs = .ok v o → RSt Z A0 own ow (setM s slots o) sm h' → Fr own ow h own ow h' → Rp (Av A0 own ow) h' v m → Q m h')
    (kx : ∀ v o m h', vf xs = .xc v o → RSt Z A0 own ow (setM s slots o) sm h' → Fr own ow h own ow h' → Rp (Av A0 own ow) h' v m → E m h') : rr ms h Q E := by
  simp only [SpOk, Bool.and_eq_true, decide_eq_true_eq, beq_iff_eq] at hsp
  obtain ⟨⟨⟨hl, hm⟩, ha⟩, hn⟩ := hsp
  have sl : ∀ k p : Nat, ios[k]? = some p → ∃ i, slots[k]? = some i ∧ sp[p]? = some (some i) := fun k p e => by
    have := congrArg (·[k]?) hm
    simp only [List.getElem?_map, e, Option.map] at this
    cases q : slots[k]? with
    | none => rw [q] at this; cases this
    | some i =>
      rw [q] at this
      refine ⟨i, rfl, ?_⟩
      have this : (sp[p]?).join = some i := Option.some.inj this
      cases q2 : sp[p]? with
      | none => rw [q2] at this; cases this
      | some o => rw [q2] at this; rw [show o = some i from this]
  have pin : ∀ p i : Nat, sp[p]? = some (some i) → p ∈ ios := fun p i e => by
    have := List.all_eq_true.mp ha p (List.mem_range.mpr (List.getElem?_eq_some_iff.mp e).1)
    rw [e] at this
    simpa using this
  have pout : ∀ p : Nat, sp[p]? = some none → p ∉ ios := fun p e => by
    have := List.all_eq_true.mp ha p (List.mem_range.mpr (List.getElem?_eq_some_iff.mp e).1)
    rw [e] at this
    simpa using this
  let ow' : Nat → Option Nat := fun p => ((sp[p]?).join).bind ow
  let A' : Nat → Prop := fun n => A0 n ∧ ∀ i, i ∈ own → i ∉ slots → ow i ≠ some n
  have owp : ∀ p ∈ ios, ∃ i, i ∈ slots ∧ sp[p]? = some (some i) ∧ ow' p = ow i := fun p hp => by
    obtain ⟨k, hk⟩ := List.mem_iff_getElem?.mp hp
    obtain ⟨i, a, b⟩ := sl k p hk
    exact ⟨i, List.mem_of_getElem? a, b, by show ((sp[p]?).join).bind ow = _; rw [b]; rfl⟩
  have slp : ∀ i ∈ slots, ∃ p, p ∈ ios ∧ ow' p = ow i := fun i hi => by
    obtain ⟨k, hk⟩ := List.mem_iff_getElem?.mp hi
    have hki : k < ios.length := by rw [hl]; exact (List.getElem?_eq_some_iff.mp hk).1
    obtain ⟨j, a, b⟩ := sl k ios[k] (by simp)
    rw [hk] at a
    cases a
    exact ⟨ios[k], List.getElem_mem _, by show ((sp[ios[k]]?).join).bind ow = _; rw [b]; rfl⟩
  have un1 : ∀ n, Un own ow n → Un ios ow' n := fun n u p hp => by
    obtain ⟨i, hi, _, e⟩ := owp p hp
    rw [e]; exact u i (ho i hi)
  have av1 : ∀ n, Av A0 own ow n → Av A' ios ow' n := fun n a => ⟨⟨a.1, fun i hi _ => a.2 i hi⟩, un1 n a.2⟩
  have av2 : ∀ n, Av A' ios ow' n → Av A0 own ow n := fun n a => ⟨a.1.1, fun i hi => by
    by_cases hs : i ∈ slots
    · obtain ⟨p, hp, e⟩ := slp i hs
      rw [← e]; exact a.2 p hp
    · exact a.1.2 i hi hs⟩
  have mv1 : ∀ k o, Av A0 own ow k → h[k]? = some o → Av A' ios ow' k ∧ h[k]? = some o := fun k o a e => ⟨av1 k a, e⟩
  have inj' : ∀ p q n, p ∈ ios → q ∈ ios → ow' p = some n → ow' q = some n → p = q := fun p q n hp hq e1 e2 => by
    obtain ⟨k1, hk1⟩ := List.mem_iff_getElem?.mp hp
    obtain ⟨k2, hk2⟩ := List.mem_iff_getElem?.mp hq
    obtain ⟨i, a, b⟩ := sl k1 p hk1
    obtain ⟨j, c, d⟩ := sl k2 q hk2
    have ei : ow i = some n := by rw [← e1]; show _ = ((sp[p]?).join).bind ow; rw [b]; rfl
    have ej : ow j = some n := by rw [← e2]; show _ = ((sp[q]?).join).bind ow; rw [d]; rfl
    have := r.inj i j n (ho i (List.mem_of_getElem? a)) (ho j (List.mem_of_getElem? c)) ei ej
    subst this
    have l1 := (List.getElem?_eq_some_iff.mp a)
    have l2 := (List.getElem?_eq_some_iff.mp c)
    have : k1 = k2 := (List.getElem_inj hn (h₀ := l1.1) (h₁ := l2.1)).mp (l1.2.trans l2.2.symm)
    subst this
    rw [hk1] at hk2
    exact Option.some.inj hk2
  have pl := p.len
  have rc : RSt Z A' ios ow' (xs.map some) (ms.map some) h := by
    refine ⟨by simp [pl.1, pl.2], fun q pv hq e => ?_, fun q pv hq e => ?_, fun q n hq e => ?_, inj', fun n hn => ⟨r.fr n hn, fun i hi _ => r.un hn i hi⟩, fun k o e => ⟨(r.tb k o e).1, un1 k (r.tb k o e).2⟩, fun k e => ⟨av1 k (r.za k e).1, (r.za k e).2⟩⟩
    · rw [List.getElem?_map] at e
      obtain ⟨x, ex, e⟩ := Option.map_eq_some_iff.mp e
      cases e
      obtain ⟨m, em, c⟩ := p.get ex
      refine ⟨m, by rw [List.getElem?_map, em]; rfl, ?_⟩
      rcases c with ⟨_, c⟩ | ⟨i, c, _⟩
      · exact c.mono mv1
      · exact absurd (pin q i c) hq
    · rw [List.getElem?_map] at e
      obtain ⟨x, ex, e⟩ := Option.map_eq_some_iff.mp e
      cases e
      obtain ⟨m, em, c⟩ := p.get ex
      rcases c with ⟨c, _⟩ | ⟨i, c, d, f⟩
      · exact absurd hq (pout q c)
      · obtain ⟨j, hj, ej, eo⟩ := owp q hq
        rw [c] at ej
        cases ej
        obtain ⟨n, a, b, g⟩ := r.ows i _ (ho i hj) d
        rw [f] at b
        cases b
        exact ⟨n, eo.trans a, by rw [List.getElem?_map, em]; rfl, g.mono mv1 rfl⟩
    · obtain ⟨i, hi, _, eo⟩ := owp q hq
      rw [eo] at e
      obtain ⟨a, b⟩ := r.ex i n (ho i hi) e
      exact ⟨⟨a, fun j hj hs ej => hs (by rw [r.inj j i n hj (ho i hi) ej e]; exact hi)⟩, b⟩
  have back : ∀ o h', Fin A' ios ow' h o h' → RSt Z A0 own ow (setM s slots o) sm h' ∧ Fr own ow h own ow h' ∧ ∀ v m, Rp (Av A' ios ow') h' v m → Rp (Av A0 own ow) h' v m := fun o h' fin => by
    have mv2 : ∀ k o, Av A' ios ow' k → h'[k]? = some o → Av A0 own ow k ∧ h'[k]? = some o := fun k o a e => ⟨av2 k a, e⟩
    have fr : Fr own ow h own ow h' := ⟨fin.fr.len, fun n o e u => ⟨(fin.fr.keep n o e (un1 n u)).1, u⟩⟩
    have rest : ∀ i n u, i ∈ own → i ∉ slots → ow i = some n → h[n]? = some u → h'[n]? = some u := fun i n u hi hs e g => (fin.fr.keep n u g fun q hq eq => by
      obtain ⟨j, hj, _, eo⟩ := owp q hq
      rw [eo] at eq
      exact hs (by rw [r.inj i j n hi (ho j hj) e eq]; exact hj)).1
    refine ⟨⟨by rw [setM_len]; exact r.len, fun i pv hi e => ?_, fun i pv hi e => ?_, fun i n hi e => ?_, r.inj, fun n hn => r.fr n (Nat.le_trans fr.len hn), fun k o e => ⟨(fr.keep k o (r.tb k o e).1 (r.tb k o e).2).1, (r.tb k o e).2⟩, fun k e => ⟨(r.za k e).1, Nat.lt_of_lt_of_le (r.za k e).2 fr.len⟩⟩, fr, fun v m q => q.mono mv2⟩
    · rw [setM_ne fun z => hi (ho i z)] at e
      obtain ⟨m, a, b⟩ := r.frz i pv hi e
      exact ⟨m, a, b.fr fr⟩
    · by_cases hs : i ∈ slots
      · obtain ⟨k, hk⟩ := List.mem_iff_getElem?.mp hs
        have hki : k < ios.length := by rw [hl]; exact (List.getElem?_eq_some_iff.mp hk).1
        obtain ⟨j, a, b⟩ := sl k ios[k] (by simp)
        rw [hk] at a
        cases a
        obtain ⟨n, pv', e1, e2, e3⟩ := fin.out k ios[k] (by simp)
        have e1 : ow i = some n := by rw [← e1]; show _ = ((sp[ios[k]]?).join).bind ow; rw [b]; rfl
        have hil : i < s.length := by
          have := (List.getElem?_eq_some_iff.mp e).1
          rw [setM_len] at this; exact this
        rw [setM_at hn hk e2 hil] at e
        cases e
        have hpk : ios[k] < sp.length := (List.getElem?_eq_some_iff.mp b).1
        obtain ⟨m, em, c⟩ := p.get (p := ios[k]) (x := xs[ios[k]]'(by rw [pl.1]; exact hpk)) (by simp)
        rcases c with ⟨c, _⟩ | ⟨j, c, d, f⟩
        · rw [b] at c; cases c
        · rw [b] at c
          cases c
          obtain ⟨n2, a2, b2, g2⟩ := r.ows i _ hi d
          rw [e1] at a2
          cases a2
          exact ⟨n, e1, b2, e3.mono mv2 rfl⟩
      · rw [setM_ne hs] at e
        obtain ⟨n, a, b, c⟩ := r.ows i pv hi e
        obtain ⟨u, g, _⟩ := c.mut
        exact ⟨n, a, b, c.mono (fun k o a e => ⟨a, (fr.keep k o e a.2).1⟩) (by rw [g]; exact rest i n u hi hs a g)⟩
    · obtain ⟨a, u, g, mu⟩ := r.ex i n hi e
      by_cases hs : i ∈ slots
      · obtain ⟨k, hk⟩ := List.mem_iff_getElem?.mp hs
        have hki : k < ios.length := by rw [hl]; exact (List.getElem?_eq_some_iff.mp hk).1
        obtain ⟨j, a2, b⟩ := sl k ios[k] (by simp)
        rw [hk] at a2
        cases a2
        obtain ⟨n2, pv', e1, e2, e3⟩ := fin.out k ios[k] (by simp)
        have e1 : ow i = some n2 := by rw [← e1]; show _ = ((sp[ios[k]]?).join).bind ow; rw [b]; rfl
        rw [e] at e1
        cases e1
        exact ⟨a, e3.mut⟩
      · exact ⟨a, u, rest i n u hi hs e g, mu⟩
  exact hf rc nb Q E (fun v o m h' e fin q => by obtain ⟨a, b, c⟩ := back o h' fin; exact k v o m h' e a b (c _ _ q)) (fun v o m h' e fin q => by obtain ⟨a, b, c⟩ := back o h' fin; exact kx v o m h' e a b (c _ _ q))
/-- the binding of arguments: the places that idx tells out of positional ones, defaults and keyword ones -/
def vBind (idx : List Nat) (d : List PV) (a k : VA) : VA := fun s => (a s).bind fun xs s1 => (k s1).bind fun ns s2 => .ok (pick idx (xs ++ (d ++ ns))) s2
theorem pick_at {α : Type} {idx : List Nat} {l : List α} (h : ∀ j ∈ idx, j < l.length) : ∀ (p : Nat), (pick idx l)[p]? = (idx[p]?).bind fun j => l[j]? := by
  unfold pick
  induction idx with
  | nil => intro p; simp
  | cons j idx ih =>
    intro p
    have hj := h j List.mem_cons_self
    rw [List.filterMap_cons, List.getElem?_eq_getElem hj]
    cases p with
    | zero => simp [hj]
    | succ p => simpa using ih (fun i hi => h i (List.mem_cons_of_mem _ hi)) p
theorem pick_len {α : Type} {idx : List Nat} {l : List α} (h : ∀ j ∈ idx, j < l.length) : (pick idx l).length = idx.length := by
  unfold pick
  induction idx with
  | nil => rfl
  | cons j idx ih =>
    have hj := h j List.mem_cons_self
    rw [List.filterMap_cons, List.getElem?_eq_getElem hj]
    simp [ih fun i hi => h i (List.mem_cons_of_mem _ hi)]
theorem RpC.app {A : Nat → Prop} {h : MH} {s : VS} {sm : MS} : ∀ {sp sp2 : List (Option Nat)} {xs ys : List PV} {ms ns : List M}, RpC A h s sm sp xs ms → RpC A h s sm sp2 ys ns → RpC A h s sm (sp ++ sp2) (xs ++ ys) (ms ++ ns)
  | [], _, _, _, _, _, ⟨a, b⟩, r => by subst a; subst b; exact r
  | none :: sp, _, _, _, _, _, ⟨x, t, m, u, a, b, q, r⟩, r2 => by subst a; subst b; exact ⟨x, _, m, _, rfl, rfl, q, RpC.app r r2⟩
  | some i :: sp, _, _, _, _, _, ⟨x, t, m, u, a, b, q, q2, r⟩, r2 => by subst a; subst b; exact ⟨x, _, m, _, rfl, rfl, q, q2, RpC.app r r2⟩
theorem RpC.con {A : Nat → Prop} {h : MH} {s : VS} {sm : MS} : ∀ {d : List PV} {dM : List M}, Rps A h d dM → RpC A h s sm (d.map fun _ => none) d dM
  | [], _, r => ⟨rfl, r⟩
  | x :: d, _, ⟨m, t, e, a, b⟩ => by subst e; exact ⟨x, d, m, t, rfl, rfl, a, RpC.con b⟩
theorem RpC.pick {A : Nat → Prop} {h : MH} {s : VS} {sm : MS} {sp : List (Option Nat)} {xs : List PV} {ms : List M} (r : RpC A h s sm sp xs ms) {idx : List Nat} (hi : ∀ j ∈ idx, j < sp.length) : RpC A h s sm (pick idx sp) (Mn.pick idx xs) (Mn.pick idx ms) := by
  have l := r.len
  have hx : ∀ j ∈ idx, j < xs.length := fun j hj => by rw [l.1]; exact hi j hj
  have hm : ∀ j ∈ idx, j < ms.length := fun j hj => by rw [l.2]; exact hi j hj
  refine RpC.of (by rw [pick_len hx, pick_len hi]) (by rw [pick_len hm, pick_len hi]) fun p x e => ?_
  rw [pick_at hx] at e
  obtain ⟨j, ej, ex⟩ := Option.bind_eq_some_iff.mp e
  obtain ⟨m, em, c⟩ := r.get ex
  exact ⟨m, by rw [pick_at hm, ej]; exact em, by rw [pick_at hi, ej]; exact c⟩
/-- a moved view: own objects read in the state behind all arguments -/
def CPure (v : VA) : Prop := ∀ s xs s', v s = .ok xs s' → s' = s
theorem v_call {rr : MSp} {vf : VF} {ios slots idx : List Nat} {d : List PV} {dM : List M} {sp : List (Option Nat)} {n : Nat} {wa : MTA} {va : VA} (hf : FSim Z ios rr vf) (hd : ∀ A h, Rps A h d dM) (ha : CSim Z own sp wa va) (hi : ∀ j ∈ idx, j < sp.length + d.length) (hsp : SpOk (pick idx (sp ++ d.map fun _ => none)) ios slots = true) (ho : ∀ i ∈ slots, i ∈ own) (hn : sp.length = n) :
    ESim Z own false (wCall (fun ms => rr ((fun ms ns => pick idx (ms ++ (dM ++ ns))) ms [])) n wa) (vCall vf slots (vBind idx d va vNil)) := by
  intro A0 ow s sm h r nb Q E k kx
  have na : va s ≠ .bad := fun e => nb (by simp only [vCall, vBind, e, ER.bind])
  refine ha r na _ _ (fun xs s1 m1 h1 e1 r1 f1 p1 => ?_) (fun x s1 m1 h1 e1 r1 f1 p1 => kx x s1 m1 h1 (by simp only [vCall, vBind, e1, ER.bind]) r1 f1 p1)
  have ev : vCall vf slots (vBind idx d va vNil) s = (vf (pick idx (xs ++ (d ++ [])))).toE s1 slots := by simp only [vCall, vBind, vNil, e1, ER.bind]
  have nf : vf (pick idx (xs ++ (d ++ []))) ≠ .bad := fun e => nb (by rw [ev, e]; rfl)
  refine ⟨by rw [p1.len.2]; exact hn, ?_⟩
  have p2 := (p1.app (RpC.con (hd (Av A0 own ow) h1))).pick (idx := idx) (by rw [List.length_append, List.length_map]; exact hi)
  rw [show pick idx (xs ++ (d ++ [])) = pick idx (xs ++ d) by rw [List.append_nil]] at ev nf
  show rr (pick idx (m1 ++ (dM ++ []))) h1 Q E
  rw [List.append_nil]
  exact call_in hsp ho r1 p2 hf nf (fun v o m h' e r' f q => k v _ m h' (by rw [ev, e]; rfl) r' (f1.trans f) q fun z => by cases z) (fun v o m h' e r' f q => kx v _ m h' (by rw [ev, e]; rfl) r' (f1.trans f) q)
theorem v_callK {rr : MSp} {vf : VF} {ios slots idx : List Nat} {d : List PV} {dM : List M} {sp spk : List (Option Nat)} {n m : Nat} {wa wk : MTA} {va vk : VA} (hf : FSim Z ios rr vf) (hd : ∀ A h, Rps A h d dM) (ha : CSim Z own sp wa va) (hk : CSim Z own spk wk vk) (hp : CPure vk) (hi : ∀ j ∈ idx, j < sp.length + (d.length + spk.length))
    (hsp : SpOk (pick idx (sp ++ ((d.map fun _ => none) ++ spk))) ios slots = true) (ho : ∀ i ∈ slots, i ∈ own) (hn : sp.length = n) (hm : spk.length = m) :
    ESim Z own false (wCallK rr (fun ms ns => pick idx (ms ++ (dM ++ ns))) n m wa wk) (vCall vf slots (vBind idx d va vk)) := by
  intro A0 ow s sm h r nb Q E k kx
  have na : va s ≠ .bad := fun e => nb (by simp only [vCall, vBind, e, ER.bind])
  refine ha r na _ _ (fun xs s1 m1 h1 e1 r1 f1 p1 => ?_) (fun x s1 m1 h1 e1 r1 f1 p1 => kx x s1 m1 h1 (by simp only [vCall, vBind, e1, ER.bind]) r1 f1 p1)
  have nk : vk s1 ≠ .bad := fun e => nb (by simp only [vCall, vBind, e1, e, ER.bind])
  refine hk r1 nk _ _ (fun ns s2 m2 h2 e2 r2 f2 p2 => ?_) (fun x s2 m2 h2 e2 r2 f2 p2 => kx x s2 m2 h2 (by simp only [vCall, vBind, e1, e2, ER.bind]) r2 (f1.trans f2) p2)
  have es := hp _ _ _ e2
  subst es
  have ev : vCall vf slots (vBind idx d va vk) s = (vf (pick idx (xs ++ (d ++ ns)))).toE s2 slots := by simp only [vCall, vBind, e1, e2, ER.bind]
  have nf : vf (pick idx (xs ++ (d ++ ns))) ≠ .bad := fun e => nb (by rw [ev, e]; rfl)
  refine ⟨by rw [p1.len.2]; exact hn, by rw [p2.len.2]; exact hm, ?_⟩
  have p3 := ((p1.fr f2).app ((RpC.con (hd (Av A0 own ow) h2)).app p2)).pick (idx := idx) (by simp only [List.length_append, List.length_map]; exact hi)
  exact call_in hsp ho r2 p3 hf nf (fun v o m h' e r' f q => k v _ m h' (by rw [ev, e]; rfl) r' ((f1.trans f2).trans f) q fun z => by cases z) (fun v o m h' e r' f q => kx v _ m h' (by rw [ev, e]; rfl) r' ((f1.trans f2).trans f) q)
end
end Vn
end
section
set_option maxHeartbeats 1000000
namespace Vn
open PySem PySem.Spec PyProof.Rows L2 Mn

/-! ### try, fields of exceptions -/
def SR.suf (i : Nat) (r : SR) : SR := match r with
  | .nx s => .nx (s.set i none)
  | .br s => .br (s.set i none)
  | .ct s => .ct (s.set i none)
  | .rt v s => .rt v s
  | .xc _ _ => .bad
  | .bad => .bad
def vTry (cs : List Str) (catches : Str → Bool) (i : Nat) (b w : VSt) : VSt := fun s => match b s with
  | .xc (.exc C ks us) s1 => if C ∈ cs then (if catches C = true then (w (s1.set i (some (.exc C ks us)))).suf i else .xc (.exc C ks us) s1) else .bad
  | .xc _ _ => .bad
  | r => r
def fldV : List Str → List PV → Str → Option PV
  | k :: ks, v :: vs, n => if n = k then some v else fldV ks vs n
  | _, _, _ => none
def xfV (cs : List Str) (n : Str) (x : PV) : Option PV := match x with
  | .exc C ks vs => if C ∈ cs then fldV ks vs n else none
  | _ => none
def vXf (cs : List Str) (n : Str) (a : VE) : VE := fun s => (a s).bind fun x s1 => opt (xfV cs n x) s1
section
variable {Z : Bs} {own : List Nat} {X : SX}
theorem Pst.suf {A0 : Nat → Prop} {own' : List Nat} {ow ow' : Nat → Option Nat} {h h' : MH} {ios : List Nat} {s' : VS} {sm' : MS} {i : Nat} (p : Pst Z A0 own ow h ios own' s' ow' sm' h') (hi : i ∉ own') : Pst Z A0 own ow h ios own' (s'.set i none) ow' (sm'.set i none) h' := ⟨p.st.unset hi, p.fr, p.kp⟩
theorem v_try {cs : List Str} {catches : Str → Bool} {i : Nat} {oH : List Nat} {wb ws : MTS} {vb vs : VSt} (hi : i ∉ oH) (h1 : i ∉ X.nx) (h2 : i ∉ X.br) (h3 : i ∉ X.ct) (d2 : X.xc ⊆ oH) (hb : SSim Z own { X with xc := oH } wb vb) (hs : SSim Z oH X ws vs) : SSim Z own X (wTryT cs catches i wb ws) (vTry cs catches i vb vs) := by
  intro A0 ow s sm h r nb D kn kr kb kc kx
  have nb1 : vb s ≠ .bad := fun e => nb (by simp only [vTry, e])
  refine hb r nb1 _ (fun s' ow' sm' h' e p => kn s' ow' sm' h' (by simp only [vTry, e]) p) (fun pv s' m ow' sm' h' e p q => kr pv s' m ow' sm' h' (by simp only [vTry, e]) p q) (fun s' ow' sm' h' e p => kb s' ow' sm' h' (by simp only [vTry, e]) p) (fun s' ow' sm' h' e p => kc s' ow' sm' h' (by simp only [vTry, e]) p) fun pv s' m ow' sm' h' e p q => ?_
  cases pv with
  | exc C ks us =>
    obtain ⟨ms, rfl, q'⟩ := q
    by_cases hc : C ∈ cs
    · refine ⟨C, ks, ms, rfl, hc, ?_⟩
      by_cases hk : catches C = true
      · rw [if_pos hk]
        have ev : vTry cs catches i vb vs s = (vs (s'.set i (some (.exc C ks us)))).suf i := by simp only [vTry, e, if_pos hc, if_pos hk]
        have r2 := p.st.put hi (pv := .exc C ks us) (m := .exc C ks ms) ⟨ms, rfl, q'⟩
        have nb2 : vs (s'.set i (some (.exc C ks us))) ≠ .bad := fun z => nb (by rw [ev, z]; rfl)
        have p2 : Pst Z A0 own ow h X.ios oH (s'.set i (some (.exc C ks us))) ow' (sm'.set i (some (.exc C ks ms))) h' := ⟨r2, p.fr, p.kp⟩
        exact hs r2 nb2 _ (fun s3 ow3 sm3 h3' e3 p3 => kn _ ow3 _ h3' (by rw [ev, e3]; rfl) ((p2.trans p3).suf h1)) (fun pv s3 m ow3 sm3 h3' e3 p3 q3 => kr pv _ m ow3 _ h3' (by rw [ev, e3]; rfl) (p2.trans p3) q3) (fun s3 ow3 sm3 h3' e3 p3 => kb _ ow3 _ h3' (by rw [ev, e3]; rfl) ((p2.trans p3).suf h2))
          (fun s3 ow3 sm3 h3' e3 p3 => kc _ ow3 _ h3' (by rw [ev, e3]; rfl) ((p2.trans p3).suf h3)) (fun pv s3 m ow3 sm3 h3' e3 p3 q3 => absurd (by rw [ev, e3]; rfl) nb)
      · rw [if_neg hk]
        exact kx (.exc C ks us) s' _ ow' sm' h' (by simp only [vTry, e, if_pos hc, if_neg hk]) ⟨p.st.drop d2, p.fr.trans (Fr.drop d2), p.kp⟩ (rp_drop ⟨ms, rfl, q'⟩ d2)
    · exact absurd (by simp only [vTry, e, if_neg hc]) nb
  | _ => exact absurd (by simp only [vTry, e]) nb
theorem fld_rp {A : Nat → Prop} {h : MH} {n : Str} : ∀ {ks : List Str} {vs : List PV} {ms : List M} {v : PV}, Rps A h vs ms → fldV ks vs n = some v → ∃ m, fldOf ks ms n = some m ∧ Rp A h v m
  | [], vs, ms, v, _, e => by simp [fldV] at e
  | k :: ks, [], ms, v, _, e => by simp [fldV] at e
  | k :: ks, x :: vs, _, v, ⟨m, t, e0, a, b⟩, e => by
    subst e0
    unfold fldV at e
    unfold fldOf
    split at e
    · rename_i hk
      cases e
      exact ⟨m, if_pos hk, a⟩
    · rename_i hk
      rw [if_neg hk]
      exact fld_rp b e
theorem v_xf {cs : List Str} {n : Str} {n1 : Bool} {wa : MTE} {va : VE} (ha : ESim Z own n1 wa va) : ESim Z own false (wXf cs n wa) (vXf cs n va) := by
  intro A0 ow s sm h r nb Q E k kx
  have na : va s ≠ .bad := fun e => nb (by simp only [vXf, e, ER.bind])
  refine ha r na _ _ (fun x s1 m1 h1 e1 r1 f1 p1 _ => ?_) (fun x s1 m1 h1 e1 r1 f1 p1 => kx x s1 m1 h1 (by simp only [vXf, e1, ER.bind]) r1 f1 p1)
  cases e : xfV cs n x with
  | none => exact absurd (by simp only [vXf, e1, e, ER.bind, opt]) nb
  | some v =>
    have e' := e
    cases x with
    | exc C ks vs =>
      have e' : (if C ∈ cs then fldV ks vs n else none) = some v := e'
      split at e'
      · rename_i hc
        obtain ⟨ms, rfl, q⟩ := p1
        obtain ⟨m, em, rm⟩ := fld_rp q e'
        exact ⟨C, ks, ms, m, rfl, hc, em, k v s1 m h1 (by simp only [vXf, e1, e, ER.bind, opt]) r1 f1 rm fun z => by cases z⟩
      · cases e'
    | _ => cases e'
end

/-! ### a deed that is told -/
inductive TR where
  | ok (v : PV)
  | xc (e : PV)
  | bad
def toTR (r : ER PV) : TR := match r with
  | .ok v _ => .ok v
  | .xc e _ => .xc e
  | .bad => .bad
def Keep (h h' : MH) : Prop := ∀ (n : Nat) (o : O), h[n]? = some o → h'[n]? = some o
theorem Keep.len {h h' : MH} (k : Keep h h') : h.length ≤ h'.length := by
  by_cases e : h.length = 0
  · omega
  · have := (List.getElem?_eq_some_iff.mp (k (h.length - 1) h[h.length - 1] (by simp))).1
    omega
def DA (A : Nat → Prop) (h h' : MH) (n : Nat) : Prop := (A n ∧ n < h.length) ∨ h'.length ≤ n
def DeedOk (h : MH) (A : Nat → Prop) (tl : MH → KM → KM → Prop) (t : TR) : Prop := t ≠ .bad → ∀ h', Keep h h' → ∀ Q E : KM,
  (∀ v m h'', t = .ok v → Keep h' h'' → Rp (DA A h h') h'' v m → Q m h'') → (∀ e m h'', t = .xc e → Keep h' h'' → Rp (DA A h h') h'' e m → E m h'') → tl h' Q E
def ToldSim (r : TSp) (vt : M → TR → FR) : Prop := ∀ {A : Nat → Prop} {h : MH} {tl : MH → KM → KM → Prop} {t : TR}, (∀ n, h.length ≤ n → A n) → DeedOk h A tl t →
  ∀ v, (∀ lam, vt lam t = .ok v []) → ∀ Q : KM, (∀ m h', Keep h h' → Rp A h' v m → Q m h') → r tl h Q
open Classical in
noncomputable def vDeed (lam : M) (t : TR) : VE := fun s => if s[0]? = some (some (.opq lam)) then (match t with | .ok v => .ok v s | .xc e => .xc e s | .bad => .bad) else .bad
open Classical in
noncomputable def vLam (own : List Nat) (vt : M → TR → FR) (body : VE) : VE := fun s => if h : ∃ v, ∀ lam, vt lam (toTR (body (wipeV s own))) = .ok v [] then .ok h.choose s else .bad
theorem vLam_eq {own : List Nat} {vt : M → TR → FR} {body : VE} {s : VS} {v : PV} (h : ∀ lam, vt lam (toTR (body (wipeV s own))) = .ok v []) : vLam own vt body s = .ok v s := by
  have hx : ∃ v, ∀ lam, vt lam (toTR (body (wipeV s own))) = .ok v [] := ⟨v, h⟩
  unfold vLam
  rw [dif_pos hx]
  have := (hx.choose_spec .non).symm.trans (h .non)
  cases e : hx.choose with
  | _ => rw [e] at this; cases this; rfl
section
variable {Z : Bs} {own : List Nat} {A0 : Nat → Prop} {ow : Nat → Option Nat} {s : VS} {sm : MS} {h h' : MH}
theorem RSt.keep (r : RSt Z A0 own ow s sm h) (k : Keep h h') : RSt Z A0 own ow s sm h' := by
  refine ⟨r.len, fun i pv hi e => ?_, fun i pv hi e => ?_, fun i n hi e => ?_, r.inj, fun n hn => r.fr n (Nat.le_trans k.len hn), fun n o e => ⟨k _ _ (r.tb n o e).1, (r.tb n o e).2⟩, fun n e => ⟨(r.za n e).1, Nat.lt_of_lt_of_le (r.za n e).2 k.len⟩⟩
  · obtain ⟨m, a, b⟩ := r.frz i pv hi e
    exact ⟨m, a, b.mono fun n o a e => ⟨a, k n o e⟩⟩
  · obtain ⟨n, a, b, c⟩ := r.ows i pv hi e
    obtain ⟨o, g, _⟩ := c.mut
    exact ⟨n, a, b, c.mono (fun n o a e => ⟨a, k n o e⟩) (by rw [g]; exact k n o g)⟩
  · obtain ⟨a, o, g, m⟩ := r.ex i n hi e
    exact ⟨a, o, k n o g, m⟩
theorem Fr.keep' (k : Keep h h') : Fr own ow h own ow h' := ⟨k.len, fun n o e u => ⟨k n o e, u⟩⟩
theorem v_deed {A : Nat → Prop} {hb : MH} {tl : MH → KM → KM → Prop} {t : TR} {lam : M} (d : DeedOk hb A tl t) (h0 : 0 ∉ own) (hz : Z = ⟨hb, fun n => A n ∧ n < hb.length⟩) : ESim Z own false (fun sm h Q E => sm[0]? = some (some lam) ∧ tl h Q E) (vDeed lam t) := by
  subst hz
  intro A0 ow s sm h r nb Q E k kx
  unfold vDeed at nb k kx
  by_cases e0 : s[0]? = some (some (.opq lam))
  · simp only [if_pos e0] at nb k kx
    obtain ⟨m0, em, rm⟩ := r.frz 0 _ h0 e0
    have : m0 = lam := rm
    subst this
    refine ⟨em, ?_⟩
    have kb : Keep hb h := fun n o e => (r.tb n o e).1
    have mv : ∀ h'' v m, Rp (DA A hb h) h'' v m → Rp (Av A0 own ow) h'' v m := fun h'' v m q => q.mono fun n o a e => ⟨by
      rcases a with a | a
      · exact (r.za n a).1
      · exact r.av a, e⟩
    cases t with
    | bad => exact absurd rfl nb
    | ok v => exact d (by simp) h kb Q E (fun v' m h'' e kp q => by cases e; exact k v s m h'' rfl (r.keep kp) (Fr.keep' kp) (mv _ _ _ q) fun z => by cases z) (fun e m h'' e' _ _ => by cases e')
    | xc x => exact d (by simp) h kb Q E (fun v' m h'' e _ _ => by cases e) (fun e m h'' e' kp q => by cases e'; exact kx x s m h'' rfl (r.keep kp) (Fr.keep' kp) (mv _ _ _ q))
  · exact absurd (if_neg e0) nb
theorem wipeV_at {i : Nat} : ∀ {vs : List Nat}, i ∉ vs → (wipeV s vs)[i]? = s[i]?
  | [], _ => rfl
  | v :: vs, hi => by
    show ((wipeV s vs).set v none)[i]? = _
    rw [List.getElem?_set_ne (fun e : v = i => hi (e ▸ List.mem_cons_self)), wipeV_at fun z => hi (List.mem_cons_of_mem _ z)]
theorem wipeV_in {i : Nat} {pv : PV} : ∀ {vs : List Nat}, i ∈ vs → (wipeV s vs)[i]? ≠ some (some pv)
  | v :: vs, hi => by
    show ((wipeV s vs).set v none)[i]? ≠ _
    by_cases e : v = i
    · subst e
      by_cases hl : v < (wipeV s vs).length
      · rw [List.getElem?_set_self hl]; intro z; cases z
      · rw [List.getElem?_eq_none (by simpa using hl)]; intro z; cases z
    · rw [List.getElem?_set_ne e]
      exact wipeV_in ((List.mem_cons.mp hi).resolve_left (Ne.symm e))
theorem v_lam {P : Addr} {q : Str} {rr : TSp} {vt : M → TR → FR} {wb : MTE} {vb : VE} {n1 : Bool} (tz : ∃ i : Nat, Z.b[i]? = some (.tab P q)) (ts : ToldSim rr vt) (hb : ESim Z [] n1 wb vb) : ESim Z own false (wLam P q rr wb) (vLam own vt vb) := by
  intro A0 ow s sm h r nb Q E k kx
  by_cases hx : ∃ v, ∀ lam, vt lam (toTR (vb (wipeV s own))) = .ok v []
  · obtain ⟨v, hv⟩ := hx
    have ev := vLam_eq (own := own) hv
    obtain ⟨i, hi⟩ := tz
    refine ⟨⟨i, (r.tb i _ hi).1⟩, ts (A := Av A0 own ow) r.avs ?_ v hv Q fun m h' kp rp => k v s m h' ev (r.keep kp) (Fr.keep' kp) rp fun z => by cases z⟩
    intro nt h' kp Q' E' k1 k2
    have nbb : vb (wipeV s own) ≠ .bad := fun e => nt (by rw [e]; rfl)
    have lt : ∀ {n : Nat} {o : O}, h[n]? = some o → n < h.length := fun e => (List.getElem?_eq_some_iff.mp e).1
    have r0 : RSt Z (DA (Av A0 own ow) h h') [] ow (wipeV s own) sm h' := by
      refine ⟨by rw [wipeV_len]; exact r.len, fun i pv _ e => ?_, fun i pv hi => (by cases hi), fun i n hi => (by cases hi), fun i j n hi => (by cases hi), fun n hn => .inr hn, fun n o e => ⟨kp _ _ (r.tb n o e).1, fun i hi => (by cases hi)⟩, fun n e => ⟨⟨.inl ⟨(r.za n e).1, (r.za n e).2⟩, fun i hi => (by cases hi)⟩, Nat.lt_of_lt_of_le (r.za n e).2 kp.len⟩⟩
      by_cases hi : i ∈ own
      · exact absurd e (wipeV_in hi)
      · rw [wipeV_at hi] at e
        obtain ⟨m, a, b⟩ := r.frz i pv hi e
        exact ⟨m, a, b.mono fun n o a e => ⟨⟨.inl ⟨a, lt e⟩, fun i hi => (by cases hi)⟩, kp n o e⟩⟩
    have fk : ∀ {h''}, Fr [] ow h' [] ow h'' → Keep h' h'' := fun f n o e => (f.keep n o e fun i hi => by cases hi).1
    refine hb r0 nbb Q' E' (fun v' s' m h'' e r' f rp _ => k1 v' m h'' (by rw [e]; rfl) (fk f) (rp.mono fun n o a e => ⟨a.1, e⟩)) (fun v' s' m h'' e r' f rp => k2 v' m h'' (by rw [e]; rfl) (fk f) (rp.mono fun n o a e => ⟨a.1, e⟩))
  · exact absurd (by unfold vLam; exact dif_neg hx) nb
end
theorem told_run {N : List Str} {w : M → (MH → KM → KM → Prop) → MTS} {v : M → TR → VSt}
    (H : ∀ {A : Nat → Prop} {h : MH} {tl : MH → KM → KM → Prop} {t : TR}, DeedOk h A tl t → ∀ lam, SSim ⟨h, fun n => A n ∧ n < h.length⟩ [] { nx := [], br := [], ct := [], xc := [], ios := [] } (w lam tl) (v lam t)) :
    ToldSim (fun tl h Q => ∀ lam, w lam tl (endD Q) (startM N [lam]) h) fun lam t => finV [] (v lam t (startV N.length [.opq lam])) := by
  intro A h tl t fa d res hv Q k lam
  have hv : finV [] (v lam t (startV N.length [.opq lam])) = .ok res [] := hv lam
  have r0 : RSt ⟨h, fun n => A n ∧ n < h.length⟩ A [] (fun _ => none) ([PV.opq lam].map some) ([lam].map some) h := by
    refine ⟨rfl, fun i pv _ e => ?_, fun i pv hi => (by cases hi), fun i n hi => (by cases hi), fun i j n hi => (by cases hi), fa, fun n o e => ⟨e, fun i hi => (by cases hi)⟩, fun n e => ⟨⟨e.1, fun i hi => (by cases hi)⟩, e.2⟩⟩
    cases i with
    | zero => simp at e; subst e; exact ⟨lam, rfl, rfl⟩
    | succ i => simp at e
  have nb : v lam t (startV N.length [.opq lam]) ≠ .bad := fun e => by rw [e] at hv; cases hv
  have fk : ∀ {ow ow' h''}, Fr [] ow h [] ow' h'' → Keep h h'' := fun f n o e => (f.keep n o e fun i hi => by cases hi).1
  refine H d lam (r0.start N) nb (endD Q) (fun s' ow' sm' h' e p => ?_) (fun pv s' m ow' sm' h' e p q => ?_) (fun s' ow' sm' h' e p => by rw [e] at hv; cases hv) (fun s' ow' sm' h' e p => by rw [e] at hv; cases hv) (fun pv s' m ow' sm' h' e p q => by rw [e] at hv; cases hv)
  · rw [e] at hv
    have : FR.ok .non [] = FR.ok res [] := hv
    cases this
    exact k _ h' (fk p.fr) rfl
  · rw [e] at hv
    have : FR.ok pv [] = FR.ok res [] := hv
    cases this
    exact k m h' (fk p.fr) (q.mono fun n o a e => ⟨a.1, e⟩)

/-- a law: its value at the script tells the small world's -/
theorem law_of {r : MSp} {vf : VF} {ns : List Int} {ts : List (Addr × Str)} (H : ∀ Z : Bs, (∀ (i : Nat) p, ts[i]? = some p → ∃ k : Nat, Z.b[k]? = some (.tab p.1 p.2)) → FSim Z [] r vf) (e : vf [.rol (ns.map .int)] = .ok (.bl true) []) :
    r [.ref 0] (mh0 ns ts) (fun m _ => m = .bl true) fun _ _ => False := by
  have r0 : RSt ⟨mh0 ns ts, fun _ => False⟩ (fun _ => True) [] (fun _ => none) ([PV.rol (ns.map .int)].map some) ([M.ref 0].map some) (mh0 ns ts) := by
    refine ⟨rfl, fun i pv _ e => ?_, fun i pv hi => (by cases hi), fun i n hi => (by cases hi), fun i j n hi => (by cases hi), fun _ _ => trivial, fun n o e => ⟨e, fun i hi => (by cases hi)⟩, fun n e => e.elim⟩
    cases i with
    | zero => simp at e; subst e; exact ⟨.ref 0, rfl, 0, ns.map .int, rfl, ⟨trivial, fun i hi => (by cases hi)⟩, rfl, Rps.of_ints ns⟩
    | succ i => simp at e
  refine H ⟨mh0 ns ts, fun _ => False⟩ (fun i p hp => ⟨i + 1, by simp [mh0, hp]⟩) r0 (by rw [e]; intro z; cases z) _ _ (fun v o m h' e' _ q => ?_) (fun v o m h' e' _ q => by rw [e] at e'; cases e')
  rw [e] at e'
  cases e'
  exact q

/-! ### parts that leave the state -/
def EPure (v : VE) : Prop := ∀ s x s', v s = .ok x s' → s' = s
theorem ep_var {i : Nat} : EPure (vVar i) := fun s x s' e => by
  unfold vVar at e
  split at e <;> cases e
  rfl
theorem ep_con {x : PV} : EPure (vCon x) := fun s x s' e => by cases e; rfl
theorem cp_nil : CPure vNil := fun s x s' e => by cases e; rfl
theorem cp_cons {a : VE} {r : VA} (ha : EPure a) (hr : CPure r) : CPure (vCons a r) := fun s x s' e => by
  unfold vCons at e
  cases e1 : a s with
  | ok y s1 =>
    rw [e1] at e
    simp only [ER.bind] at e
    cases e2 : r s1 with
    | ok z s2 =>
      rw [e2] at e
      cases e
      rw [hr _ _ _ e2, ha _ _ _ e1]
    | xc => rw [e2] at e; cases e
    | bad => rw [e2] at e; cases e
  | xc => rw [e1] at e; cases e
  | bad => rw [e1] at e; cases e
theorem opt_pure {α : Type} {o : Option α} {s s' : VS} {x : α} (e : opt o s = .ok x s') : s' = s := by
  cases o with
  | none => cases e
  | some a => cases e; rfl
theorem ep_op {f : PV → PV → Option PV} {a b : VE} (ha : EPure a) (hb : EPure b) : EPure (vOp f a b) := fun s x s' e => by
  unfold vOp at e
  cases e1 : a s with
  | ok y s1 =>
    rw [e1] at e
    simp only [ER.bind] at e
    cases e2 : b s1 with
    | ok z s2 => rw [e2] at e; rw [opt_pure e, hb _ _ _ e2, ha _ _ _ e1]
    | xc => rw [e2] at e; cases e
    | bad => rw [e2] at e; cases e
  | xc => rw [e1] at e; cases e
  | bad => rw [e1] at e; cases e
theorem ep_un {f : PV → Option PV} {a : VE} (ha : EPure a) : EPure (vUn f a) := fun s x s' e => by
  unfold vUn at e
  cases e1 : a s with
  | ok y s1 => rw [e1] at e; rw [opt_pure e, ha _ _ _ e1]
  | xc => rw [e1] at e; cases e
  | bad => rw [e1] at e; cases e
theorem ep_fn {f : List PV → Option PV} {a : VA} (ha : CPure a) : EPure (vFn f a) := fun s x s' e => by
  unfold vFn at e
  cases e1 : a s with
  | ok y s1 => rw [e1] at e; rw [opt_pure e, ha _ _ _ e1]
  | xc => rw [e1] at e; cases e
  | bad => rw [e1] at e; cases e
theorem ep_lst {a : VA} (ha : CPure a) : EPure (vLst a) := fun s x s' e => by
  unfold vLst at e
  cases e1 : a s with
  | ok y s1 => rw [e1] at e; simp only [ER.bind] at e; split at e <;> cases e; exact ha _ _ _ e1
  | xc => rw [e1] at e; cases e
  | bad => rw [e1] at e; cases e
theorem ep_tup {a : VA} (ha : CPure a) : EPure (vTup a) := fun s x s' e => by
  unfold vTup at e
  cases e1 : a s with
  | ok y s1 => rw [e1] at e; simp only [ER.bind] at e; split at e <;> cases e; exact ha _ _ _ e1
  | xc => rw [e1] at e; cases e
  | bad => rw [e1] at e; cases e
theorem ep_call {vf : VF} {idx : List Nat} {d : List PV} {a k : VA} (ha : CPure a) (hk : CPure k) : EPure (vCall vf [] (vBind idx d a k)) := fun s x s' e => by
  unfold vCall vBind at e
  cases e1 : a s with
  | ok y s1 =>
    rw [e1] at e
    simp only [ER.bind] at e
    cases e2 : k s1 with
    | ok z s2 =>
      rw [e2] at e
      simp only [ER.bind] at e
      cases e3 : vf (pick idx (y ++ (d ++ z))) with
      | ok v o => rw [e3] at e; cases e; simp only [setM]; rw [hk _ _ _ e2, ha _ _ _ e1]
      | xc v o => rw [e3] at e; cases e
      | bad => rw [e3] at e; cases e
    | xc => rw [e2] at e; cases e
    | bad => rw [e2] at e; cases e
  | xc => rw [e1] at e; cases e
  | bad => rw [e1] at e; cases e
theorem ep_dct : EPure vDct0 := fun s x s' e => by cases e; rfl
end Vn
end
section
set_option maxHeartbeats 1000000
namespace Vn
open PySem PySem.Spec PyProof.Rows L2 Mn

/-- the tables of a law's exceptions -/
structure Tb where
  cs : List Str
  cat : Str → Bool
  xt : Str → M → Option Bool
/-! ### several names at once, some of which get an object of their own -/
def HidL (A0 : Nat → Prop) : List Nat → Nat → Prop
  | [] => A0
  | n :: ns => HidL (Hid A0 n) ns
theorem HidL.sub {k : Nat} : ∀ {A0 : Nat → Prop} {ns : List Nat}, HidL A0 ns k → A0 k ∧ k ∉ ns
  | _, [], h => ⟨h, by simp⟩
  | A0, n :: ns, h => by
    obtain ⟨a, b⟩ := HidL.sub (A0 := Hid A0 n) (ns := ns) h
    exact ⟨a.1, fun z => by
      rcases List.mem_cons.mp z with z | z
      · exact a.2 z
      · exact b z⟩
theorem HidL.of {k : Nat} : ∀ {A0 : Nat → Prop} {ns : List Nat}, A0 k → k ∉ ns → HidL A0 ns k
  | _, [], h, _ => h
  | A0, n :: ns, h, g => HidL.of (A0 := Hid A0 n) (ns := ns) ⟨h, fun z => g (z ▸ List.mem_cons_self)⟩ fun z => g (List.mem_cons_of_mem _ z)
theorem HidL.swap {A0 : Nat → Prop} {n : Nat} {ns : List Nat} : HidL A0 (n :: ns) = Hid (HidL A0 ns) n := by
  funext k
  refine propext ⟨fun h => ?_, fun h => ?_⟩
  · obtain ⟨a, b⟩ := HidL.sub h
    exact ⟨HidL.of a fun z => b (List.mem_cons_of_mem _ z), fun z => b (z ▸ List.mem_cons_self)⟩
  · obtain ⟨a, b⟩ := HidL.sub h.1
    exact HidL.of a fun z => (List.mem_cons.mp z).elim h.2 b
/-- the values: fresh objects ns at the flagged places -/
def GL (A : Nat → Prop) (h : MH) : List Bool → List Nat → List PV → List M → Prop
  | [], ns, xs, ms => ns = [] ∧ xs = [] ∧ ms = []
  | false :: fl, ns, xs, ms => ∃ x t m u, xs = x :: t ∧ ms = m :: u ∧ Rp A h x m ∧ GL A h fl ns t u
  | true :: fl, ns, xs, ms => ∃ n r x t u, ns = n :: r ∧ xs = x :: t ∧ ms = .ref n :: u ∧ RpO A h x n ∧ GL A h fl r t u
theorem GL.mono {A A' : Nat → Prop} {h : MH} (f : ∀ n o, A n → h[n]? = some o → A' n ∧ h[n]? = some o) : ∀ {fl : List Bool} {ns : List Nat} {xs : List PV} {ms : List M}, GL A h fl ns xs ms → GL A' h fl ns xs ms
  | [], _, _, _, g => g
  | false :: fl, _, _, _, ⟨x, t, m, u, a, b, c, d⟩ => ⟨x, t, m, u, a, b, c.mono f, GL.mono f d⟩
  | true :: fl, _, _, _, ⟨n, r, x, t, u, a, b, c, d, g⟩ => ⟨n, r, x, t, u, a, b, c, d.mono f rfl, GL.mono f g⟩
theorem GL.len {A : Nat → Prop} {h : MH} : ∀ {fl : List Bool} {ns : List Nat} {xs : List PV} {ms : List M}, GL A h fl ns xs ms → xs.length = fl.length ∧ ms.length = fl.length
  | [], _, _, _, ⟨_, a, b⟩ => by subst a; subst b; exact ⟨rfl, rfl⟩
  | false :: fl, _, _, _, ⟨x, t, m, u, a, b, c, d⟩ => by subst a; subst b; have := GL.len d; simp [this]
  | true :: fl, _, _, _, ⟨n, r, x, t, u, a, b, c, d, g⟩ => by subst b; subst c; have := GL.len g; simp [this]
def vConsO (a : VE) (r : VA) : VA := fun s => (a s).bind fun x s1 => if isObj x = true then (r s1).bind fun xs s2 => .ok (x :: xs) s2 else .bad
def NASim (Z : Bs) (own : List Nat) (fl : List Bool) (w : MTA) (v : VA) : Prop := ∀ {A0 : Nat → Prop} {ow : Nat → Option Nat} {s : VS} {sm : MS} {h : MH}, RSt Z A0 own ow s sm h → v s ≠ .bad → ∀ (Q : List M → MH → Prop) (E : KM),
  (∀ xs s' ms h' ns, v s = .ok xs s' → Fr own ow h own ow h' → (∀ n ∈ ns, A0 n ∧ h.length ≤ n ∧ Un own ow n) → ns.Nodup → RSt Z (HidL A0 ns) own ow s' sm h' → GL (Av (HidL A0 ns) own ow) h' fl ns xs ms → Q ms h') →
  (∀ pv s' m h', v s = .xc pv s' → RSt Z A0 own ow s' sm h' → Fr own ow h own ow h' → Rp (Av A0 own ow) h' pv m → E m h') → w sm h Q E
section
variable {Z : Bs} {own : List Nat} {X : SX}
theorem na_nil : NASim Z own [] wNil vNil := fun r nb Q E k kx => k [] _ [] _ [] rfl Fr.refl (fun _ h => (by cases h)) List.nodup_nil r ⟨rfl, rfl, rfl⟩
theorem na_val {fl : List Bool} {wa : MTE} {va : VE} {wr : MTA} {vr : VA} {n1 : Bool} (ha : ESim Z own n1 wa va) (hr : NASim Z own fl wr vr) : NASim Z own (false :: fl) (wCons wa wr) (vCons va vr) := by
  intro A0 ow s sm h r nb Q E k kx
  have na : va s ≠ .bad := fun e => nb (by simp only [vCons, e, ER.bind])
  refine ha r na _ _ (fun x s1 m1 h1 e1 r1 f1 p1 _ => ?_) (fun x s1 m1 h1 e1 r1 f1 p1 => kx x s1 m1 h1 (by simp only [vCons, e1, ER.bind]) r1 f1 p1)
  have nb' : vr s1 ≠ .bad := fun e => nb (by simp only [vCons, e1, e, ER.bind])
  refine hr r1 nb' _ _ (fun y s2 m2 h2 ns e2 f2 hn nd r2 g2 => k (x :: y) s2 (m1 :: m2) h2 ns (by simp only [vCons, e1, e2, ER.bind]) (f1.trans f2) (fun n hm => ⟨(hn n hm).1, Nat.le_trans f1.len (hn n hm).2.1, (hn n hm).2.2⟩) nd r2 ⟨x, y, m1, m2, rfl, rfl, ?_, g2⟩) (fun y s2 m2 h2 e2 r2 f2 p2 => kx y s2 m2 h2 (by simp only [vCons, e1, e2, ER.bind]) r2 (f1.trans f2) p2)
  exact p1.mono fun n o a e => ⟨⟨HidL.of a.1 fun hm => by
    have := (hn n hm).2.1
    have := (List.getElem?_eq_some_iff.mp e).1
    omega, a.2⟩, (f2.keep n o e a.2).1⟩
theorem na_own {fl : List Bool} {wa : MTE} {va : VE} {wr : MTA} {vr : VA} (ha : ESim Z own true wa va) (hr : NASim Z own fl wr vr) : NASim Z own (true :: fl) (wCons wa wr) (vConsO va vr) := by
  intro A0 ow s sm h r nb Q E k kx
  have na : va s ≠ .bad := fun e => nb (by simp only [vConsO, e, ER.bind])
  refine ha r na _ _ (fun x s1 m1 h1 e1 r1 f1 p1 n1 => ?_) (fun x s1 m1 h1 e1 r1 f1 p1 => kx x s1 m1 h1 (by simp only [vConsO, e1, ER.bind]) r1 f1 p1)
  by_cases ho : isObj x = true
  · obtain ⟨n, rfl⟩ : ∃ n, m1 = .ref n := by
      cases x with
      | lst => obtain ⟨n, _, e, _⟩ := p1; exact ⟨n, e⟩
      | dct => obtain ⟨n, _, e, _⟩ := p1; exact ⟨n, e⟩
      | _ => cases ho
    obtain ⟨hn1, an, r1', q⟩ := n1 rfl n rfl
    have un := r1'.un_hide
    have nb' : vr s1 ≠ .bad := fun e => nb (by simp only [vConsO, e1, if_pos ho, e, ER.bind])
    refine hr r1' nb' _ _ (fun y s2 m2 h2 ns e2 f2 hn nd r2 g2 => ?_) (fun y s2 m2 h2 e2 r2 f2 p2 => kx y s2 m2 h2 (by simp only [vConsO, e1, e2, if_pos ho, ER.bind]) (r2.show an) (f1.trans f2) (p2.mono fun k o a e => ⟨⟨a.1.1, a.2⟩, e⟩))
    obtain ⟨o, go, _⟩ := q.mut
    refine k (x :: y) s2 (.ref n :: m2) h2 (n :: ns) (by simp only [vConsO, e1, e2, if_pos ho, ER.bind]) (f1.trans f2) (fun j hm => ?_) (List.nodup_cons.mpr ⟨fun hm => (hn n hm).1.2 rfl, nd⟩) r2 ⟨n, ns, x, y, m2, rfl, rfl, rfl, ?_, g2⟩
    · rcases List.mem_cons.mp hm with rfl | hm
      · exact ⟨an, hn1, un⟩
      · exact ⟨(hn j hm).1.1, Nat.le_trans f1.len (hn j hm).2.1, (hn j hm).2.2⟩
    · exact q.mono (fun j o a e => ⟨⟨HidL.of (A0 := Hid A0 n) a.1 fun hm => by
        have := (hn j hm).2.1
        have := (List.getElem?_eq_some_iff.mp e).1
        omega, a.2⟩, (f2.keep j o e a.2).1⟩) (by rw [go]; exact (f2.keep n o go un).1)
  · exact absurd (by simp only [vConsO, e1, ER.bind, if_neg ho]) nb
def ownL' : List Bool → List Nat → List Nat → List Nat
  | true :: fl, i :: is, own => ownL' fl is (i :: own)
  | false :: fl, _ :: is, own => ownL' fl is own
  | _, _, own => own
def freeI : List Nat → List Nat → Bool
  | [], _ => true
  | i :: is, own => !own.contains i && !is.contains i && freeI is own
theorem freeI_ok {i j : Nat} {own : List Nat} : ∀ {is : List Nat}, freeI is own = true → i ∉ is → freeI is (i :: own) = true
  | [], _, _ => rfl
  | j :: is, h, hi => by
    simp only [freeI, Bool.and_eq_true] at h ⊢
    refine ⟨⟨?_, h.1.2⟩, freeI_ok (j := j) h.2 fun z => hi (List.mem_cons_of_mem _ z)⟩
    have h1 := h.1.1
    simp only [Bool.not_eq_true', List.contains_cons, Bool.or_eq_false_iff] at h1 ⊢
    refine ⟨?_, h1⟩
    have : j ≠ i := fun z => hi (z ▸ List.mem_cons_self)
    simp [this]
theorem gl_put {h0 : MH} : ∀ {fl : List Bool} {is ns : List Nat} {own : List Nat} {ow : Nat → Option Nat} {s : VS} {sm : MS} {h : MH} {A0 : Nat → Prop} {xs : List PV} {ms : List M}, is.length = fl.length → freeI is own = true → (∀ n ∈ ns, A0 n ∧ h0.length ≤ n ∧ Un own ow n) → ns.Nodup → (∀ k o, Z.b[k]? = some o → k < h0.length) → RSt Z (HidL A0 ns) own ow s sm h → GL (Av (HidL A0 ns) own ow) h fl ns xs ms →
    Fr own ow h0 own ow h → ∃ ow', RSt Z A0 (ownL' fl is own) ow' (setM s is xs) (setM sm is ms) h ∧ Fr own ow h0 (ownL' fl is own) ow' h ∧ ∀ p, p ∉ is → ow' p = ow p
  | [], [], ns, own, ow, s, sm, h, A0, xs, ms, _, _, _, _, _, r, ⟨a, b, c⟩, f => by subst a; subst b; subst c; exact ⟨ow, r, f, fun _ _ => rfl⟩
  | false :: fl, i :: is, ns, own, ow, s, sm, h, A0, _, _, hl, hf, hn, nd, hz, r, ⟨x, t, m, u, a, b, c, d⟩, f => by
    subst a; subst b
    simp only [freeI, Bool.and_eq_true, Bool.not_eq_true'] at hf
    have hi : i ∉ own := by simpa using hf.1.1
    obtain ⟨ow', r', f', k⟩ := gl_put (is := is) (by simpa using hl) hf.2 hn nd hz (r.put hi c) d f
    exact ⟨ow', r', f', fun p hp => k p fun z => hp (List.mem_cons_of_mem _ z)⟩
  | true :: fl, i :: is, _, own, ow, s, sm, h, A0, _, _, hl, hf, hn, nd, hz, r, ⟨n, ns, x, t, u, a, b, c, d, g⟩, f => by
    subst a; subst b; subst c
    simp only [freeI, Bool.and_eq_true, Bool.not_eq_true'] at hf
    have hi : i ∉ own := by simpa using hf.1.1
    have hii : i ∉ is := by simpa using hf.1.2
    obtain ⟨an, hnl, un⟩ := hn n List.mem_cons_self
    have nn : n ∉ ns := (List.nodup_cons.mp nd).1
    rw [HidL.swap] at r d g
    have r2 := r.take hi (HidL.of an nn) un d fun k o e => by have := hz k o e; omega
    have g2 := g.mono (A' := Av (HidL A0 ns) (i :: own) (upw ow i n)) fun k o a e => ⟨⟨a.1.1, un_take hi a.2 a.1.2⟩, e⟩
    have hn2 : ∀ j ∈ ns, A0 j ∧ h0.length ≤ j ∧ Un (i :: own) (upw ow i n) j := fun j hj => by
      obtain ⟨p, q, v⟩ := hn j (List.mem_cons_of_mem _ hj)
      exact ⟨p, q, un_take hi v fun z => nn (z ▸ hj)⟩
    have f2 : Fr own ow h0 (i :: own) (upw ow i n) h := f.take hi hnl
    have lk : ∀ {k : Nat} {o : O}, h0[k]? = some o → k ≠ n := fun e z => by
      have := (List.getElem?_eq_some_iff.mp e).1
      omega
    have f3 : Fr (i :: own) (upw ow i n) h0 (i :: own) (upw ow i n) h := ⟨f.len, fun k o e v => ⟨(f.keep k o e fun j hj => by
      have := v j (List.mem_cons_of_mem _ hj)
      rwa [upw_ne (fun z : j = i => hi (z ▸ hj))] at this).1, v⟩⟩
    obtain ⟨ow', r', f', k⟩ := gl_put (is := is) (by simpa using hl) (freeI_ok (j := i) hf.2 hii) hn2 (List.nodup_cons.mp nd).2 hz r2 g2 f3
    refine ⟨ow', r', ⟨f'.len, fun k o e v => f'.keep k o e (un_take hi v (lk e))⟩, fun p hp => ?_⟩
    rw [k p fun z => hp (List.mem_cons_of_mem _ z)]
    exact upw_ne fun z => hp (z ▸ List.mem_cons_self)
theorem v_parG {i j : Nat} {fl : List Bool} {wa : MTA} {va : VA} (hl : fl.length = 2) (hf : freeI [i, j] own = true) (d : X.nx ⊆ ownL' fl [i, j] own) (d2 : X.xc ⊆ own) (hio : ∀ p ∈ X.ios, p ∉ [i, j]) (ha : NASim Z own fl wa va) : SSim Z own X (wPar i j wa) (vPar i j va) := by
  intro A0 ow s sm h r nb D kn kr kb kc kx
  have na : va s ≠ .bad := fun e => nb (by simp only [vPar, e, ER.st])
  refine ha r na _ _ (fun x s1 m1 h1 ns e1 f1 hn nd r1 g1 => ?_) (fun x s1 m1 h1 e1 r1 f1 p1 => kx x s1 m1 ow sm h1 (by simp only [vPar, e1, ER.st]) (Pst.one r1 f1 d2) (rp_drop p1 d2))
  obtain ⟨ow', r', f', k⟩ := gl_put (is := [i, j]) (by rw [hl]; rfl) hf hn nd (fun k o e => (List.getElem?_eq_some_iff.mp (r.tb k o e).1).1) r1 g1 f1
  have l := g1.len
  rw [hl] at l
  match x, m1, l, e1, r' with
  | [x, y], [mx, my], _, e1, r' => exact ⟨mx, my, rfl, kn ((s1.set i (some x)).set j (some y)) ow' _ h1 (by simp only [vPar, e1, ER.st]) ⟨RSt.drop (s := setM s1 [i, j] [x, y]) r' d, f'.trans (Fr.drop d), fun p hp => k p (hio p hp)⟩⟩
theorem v_parG3 {i j l : Nat} {fl : List Bool} {wa : MTA} {va : VA} (hl : fl.length = 3) (hf : freeI [i, j, l] own = true) (d : X.nx ⊆ ownL' fl [i, j, l] own) (d2 : X.xc ⊆ own) (hio : ∀ p ∈ X.ios, p ∉ [i, j, l]) (ha : NASim Z own fl wa va) : SSim Z own X (wPar3 i j l wa) (vPar3 i j l va) := by
  intro A0 ow s sm h r nb D kn kr kb kc kx
  have na : va s ≠ .bad := fun e => nb (by simp only [vPar3, e, ER.st])
  refine ha r na _ _ (fun x s1 m1 h1 ns e1 f1 hn nd r1 g1 => ?_) (fun x s1 m1 h1 e1 r1 f1 p1 => kx x s1 m1 ow sm h1 (by simp only [vPar3, e1, ER.st]) (Pst.one r1 f1 d2) (rp_drop p1 d2))
  obtain ⟨ow', r', f', k⟩ := gl_put (is := [i, j, l]) (by rw [hl]; rfl) hf hn nd (fun k o e => (List.getElem?_eq_some_iff.mp (r.tb k o e).1).1) r1 g1 f1
  have ln := g1.len
  rw [hl] at ln
  match x, m1, ln, e1, r' with
  | [x, y, z], [mx, my, mz], _, e1, r' => exact ⟨mx, my, mz, rfl, kn (((s1.set i (some x)).set j (some y)).set l (some z)) ow' _ h1 (by simp only [vPar3, e1, ER.st]) ⟨RSt.drop (s := setM s1 [i, j, l] [x, y, z]) r' d, f'.trans (Fr.drop d), fun p hp => k p (hio p hp)⟩⟩
end
def gsNames : List Nat → MTGs
  | [] => gsNil
  | i :: r => gsCons (gN i) (gsNames r)
theorem gsNames_go {h : MH} {Q : MS → MH → Prop} : ∀ {is : List Nat} {ms : List M} {sm : MS}, ms.length = is.length → Q (setM sm is ms) h → gsNames is ms sm h Q
  | [], [], sm, _, q => ⟨rfl, by simpa [setM] using q⟩
  | [], _ :: _, _, l, _ => by simp at l
  | _ :: _, [], _, l, _ => by simp at l
  | i :: is, m :: ms, sm, l, q => ⟨m, ms, rfl, gsNames_go (is := is) (ms := ms) (by simpa using l) q⟩
def vAsgT (is : List Nat) (a : VA) : VSt := fun s => (a s).st fun xs s1 => if xs.length = is.length ∧ xs.length ≤ SZ then .nx (setM s1 is xs) else .bad
theorem v_asgT {Z : Bs} {own : List Nat} {X : SX} {is : List Nat} {fl : List Bool} {wa : MTA} {va : VA} {n : Nat} (hn : n = is.length) (hl : is.length = fl.length) (hf : freeI is own = true) (d : X.nx ⊆ ownL' fl is own) (d2 : X.xc ⊆ own) (hio : ∀ p ∈ X.ios, p ∉ is) (ha : NASim Z own fl wa va) :
    SSim Z own X (wAsg (wTup wa) (gT n (gsNames is))) (vAsgT is va) := by
  subst hn
  intro A0 ow s sm h r nb D kn kr kb kc kx
  have na : va s ≠ .bad := fun e => nb (by simp only [vAsgT, e, ER.st])
  refine ha r na _ _ (fun x s1 m1 h1 ns e1 f1 hn nd r1 g1 => ?_) (fun x s1 m1 h1 e1 r1 f1 p1 => kx x s1 m1 ow sm h1 (by simp only [vAsgT, e1, ER.st]) (Pst.one r1 f1 d2) (rp_drop p1 d2))
  obtain ⟨ow', r', f', k⟩ := gl_put (is := is) hl hf hn nd (fun k o e => (List.getElem?_eq_some_iff.mp (r.tb k o e).1).1) r1 g1 f1
  have l := g1.len
  by_cases hz : x.length = is.length ∧ x.length ≤ SZ
  · refine ⟨by rw [l.2, ← l.1]; exact hz.2, m1, rfl, by rw [l.2, ← l.1]; exact hz.1, gsNames_go (by rw [l.2, ← l.1]; exact hz.1) ?_⟩
    exact kn (setM s1 is x) ow' _ h1 (by simp only [vAsgT, e1, ER.st, if_pos hz]) ⟨r'.drop d, f'.trans (Fr.drop d), fun p hp => k p (hio p hp)⟩
  · exact absurd (by simp only [vAsgT, e1, ER.st, if_neg hz]) nb
section
variable {Z : Bs} {own : List Nat}
theorem c_non : ESim Z own true (wCon .non) (vCon .non) := v_con (x := .non) (m := .non) (fun _ _ => rfl) fun _ => M.noConfusion
theorem c_bl (b : Bool) : ESim Z own true (wCon (.bl b)) (vCon (.bl b)) := v_con (x := .bl b) (m := .bl b) (fun _ _ => rfl) fun _ => M.noConfusion
theorem c_int (i : Int) : ESim Z own true (wCon (.int i)) (vCon (.int i)) := v_con (x := .int i) (m := .int i) (fun _ _ => rfl) fun _ => M.noConfusion
theorem c_str (s : Str) : ESim Z own true (wCon (.str s)) (vCon (.str s)) := v_con (x := .str s) (m := .str s) (fun _ _ => rfl) fun _ => M.noConfusion
theorem c_glo (x : Str) : ESim Z own true (wCon (.glo x)) (vCon (.glo x)) := v_con (x := .glo x) (m := .glo x) (fun _ _ => rfl) fun _ => M.noConfusion
theorem c_ty (n : String) : ESim Z own true (wCon (.ty n)) (vCon (.ty n)) := v_con (x := .ty n) (m := .ty n) (fun _ _ => rfl) fun _ => M.noConfusion
end
end Vn
end
section
set_option maxHeartbeats 1000000
namespace Vn
open PySem PySem.Spec PyProof.Rows L2 Mn

/-! ### equations for evaluation -/
open L2 (ixN atI)
def andK (x : PV) (b : VE) (s : VS) : ER PV := match x with
  | .bl c => if c = true then b s else .ok (.bl false) s
  | _ => .bad
def orK (x : PV) (b : VE) (s : VS) : ER PV := match x with
  | .bl c => if c = true then .ok (.bl true) s else b s
  | _ => .bad
def notK (x : PV) (s : VS) : ER PV := match x with
  | .bl c => .ok (.bl (!c)) s
  | _ => .bad
def chK (o : Option PV) (g : PV → PV → Option PV) (y : PV) (c : VE) (s : VS) : ER PV := match o with
  | some (.bl k) => if k = true then (c s).bind fun z s3 => opt (g y z) s3 else .ok (.bl false) s
  | _ => .bad
def parK (i j : Nat) (xs : List PV) (s : VS) : SR := match xs with
  | [x, y] => .nx ((s.set i (some x)).set j (some y))
  | _ => .bad
def par3K (i j l : Nat) (xs : List PV) (s : VS) : SR := match xs with
  | [x, y, z] => .nx (((s.set i (some x)).set j (some y)).set l (some z))
  | _ => .bad
def raiK (x fld : Str) (xs : List PV) (s : VS) : SR := match xs with
  | [v] => .xc (.exc x [fld] [v]) s
  | _ => .bad
def app2K (o : Option (List PV)) (i : Nat) (y : PV) (s : VS) : SR := match o with
  | some xs => if xs.length < SZ then .nx (setL s i (xs ++ [y])) else .bad
  | none => .bad
def appK (o : Option (List PV)) (i : Nat) (a : VE) (s : VS) : SR := match o with
  | some _ => (a s).st fun y s1 => app2K (ownL s1 i) i y s1
  | none => .bad
def pop2K (o : Option PV) (xs : List PV) (i : Nat) (s : VS) : ER PV := match o with
  | some y => .ok y (setL s i xs.dropLast)
  | none => .bad
def popK (o : Option (List PV)) (i : Nat) (s : VS) : ER PV := match o with
  | some xs => pop2K xs.getLast? xs i s
  | none => .bad
def revK (o : Option (List PV)) (i : Nat) (s : VS) : SR := match o with
  | some xs => .nx (setL s i xs.reverse)
  | none => .bad
def ss3K (o : Option Nat) (xs : List PV) (y : PV) (i : Nat) (s : VS) : SR := match o with
  | some j => .nx (setL s i (xs.set j y))
  | none => .bad
def ss2K (x : PV) (o : Option (List PV)) (y : PV) (i : Nat) (s : VS) : SR := match x, o with
  | .int z, some xs => ss3K (ixN xs.length z) xs y i s
  | _, _ => .bad
def ssK (o : Option (List PV)) (y : PV) (i : Nat) (b : VE) (s : VS) : SR := match o with
  | some _ => (b s).st fun x s2 => ss2K x (ownL s2 i) y i s2
  | none => .bad
def augK (o : Option PV) (i : Nat) (s : VS) : SR := match o with
  | some z => .nx (s.set i (some z))
  | none => .bad
def as5K (o : Option PV) (p : Option (List PV)) (j : Nat) (z : Int) (i : Nat) (s : VS) : SR := match o, p with
  | some v, some ys => if ixN ys.length z = some j then .nx (setL s i (ys.set j v)) else .bad
  | _, _ => .bad
def as4K (o : Option PV) (j : Nat) (z : Int) (f : PV → PV → Option PV) (i : Nat) (a : VE) (s : VS) : SR := match o with
  | some u => (a s).st fun y s2 => as5K (f u y) (ownL s2 i) j z i s2
  | none => .bad
def as3K (o : Option Nat) (z : Int) (xs : List PV) (f : PV → PV → Option PV) (i : Nat) (a : VE) (s : VS) : SR := match o with
  | some j => as4K xs[j]? j z f i a s
  | none => .bad
def as2K (x : PV) (o : Option (List PV)) (f : PV → PV → Option PV) (i : Nat) (a : VE) (s : VS) : SR := match x, o with
  | .int z, some xs => as3K (ixN xs.length z) z xs f i a s
  | _, _ => .bad
def asK (o : Option (List PV)) (f : PV → PV → Option PV) (i : Nat) (b a : VE) (s : VS) : SR := match o with
  | some _ => (b s).st fun x s1 => as2K x (ownL s1 i) f i a s1
  | none => .bad
def tryK (cs : List Str) (ca : Str → Bool) (i : Nat) (w : VSt) (r : SR) : SR := match r with
  | .xc (.exc C ks us) s1 => if C ∈ cs then (if ca C = true then (w (s1.set i (some (.exc C ks us)))).suf i else .xc (.exc C ks us) s1) else .bad
  | .xc _ _ => .bad
  | r => r
theorem e_vSeq (a b : VSt) (s : VS) : vSeq a b s = (a s).seq b := eq_of_heq HEq.rfl
theorem e_vIf (t : VT) (a b : VSt) (s : VS) : vIf t a b s = (t s).st fun c s1 => if c = true then a s1 else b s1 := eq_of_heq HEq.rfl
theorem e_vAsg (a : VE) (g : VG) (s : VS) : vAsg a g s = (a s).st fun x s1 => oS (g x s1) := eq_of_heq HEq.rfl
theorem e_vgN (i : Nat) (x : PV) (s : VS) : vgN i x s = some (s.set i (some x)) := eq_of_heq HEq.rfl
theorem e_vAsgO (a : VE) (i : Nat) (s : VS) : vAsgO a i s = (a s).st fun x s1 => if isObj x = true then .nx (s1.set i (some x)) else .bad := eq_of_heq HEq.rfl
theorem e_isObj_lst (xs : List PV) : isObj (.lst xs) = true := eq_of_heq HEq.rfl
theorem e_isObj_dct (xs : List (PV × PV)) : isObj (.dct xs) = true := eq_of_heq HEq.rfl
theorem e_vRet (a : VE) (s : VS) : vRet a s = (a s).st .rt := eq_of_heq HEq.rfl
theorem e_vDrop (a : VE) (s : VS) : vDrop a s = (a s).st fun _ s1 => .nx s1 := eq_of_heq HEq.rfl
theorem e_vNext (s : VS) : vNext s = .nx s := eq_of_heq HEq.rfl
theorem e_vBrk (s : VS) : vBrk s = .br s := eq_of_heq HEq.rfl
theorem e_vCnt (s : VS) : vCnt s = .ct s := eq_of_heq HEq.rfl
theorem e_vTst (a : VE) (s : VS) : vTst a s = (a s).bind fun x s1 => opt (tst x) s1 := eq_of_heq HEq.rfl
theorem e_vOp (f : PV → PV → Option PV) (a b : VE) (s : VS) : vOp f a b s = (a s).bind fun x s1 => (b s1).bind fun y s2 => opt (f x y) s2 := eq_of_heq HEq.rfl
theorem e_vOpL (f : PV → PV → Option PV) (i : Nat) (b : VE) (s : VS) : vOpL f i b s = (vVar i s).bind fun _ _ => (b s).bind fun y s1 => (vVar i s1).bind fun x s2 => opt (f x y) s2 := eq_of_heq HEq.rfl
theorem e_vCon (v : PV) (s : VS) : vCon v s = .ok v s := eq_of_heq HEq.rfl
theorem e_vUn (f : PV → Option PV) (a : VE) (s : VS) : vUn f a s = (a s).bind fun x s1 => opt (f x) s1 := eq_of_heq HEq.rfl
theorem e_vAndT (a b : VT) (s : VS) : vAndT a b s = (a s).bind fun c s1 => if c = true then b s1 else .ok false s1 := eq_of_heq HEq.rfl
theorem e_vOrT (a b : VT) (s : VS) : vOrT a b s = (a s).bind fun c s1 => if c = true then .ok true s1 else b s1 := eq_of_heq HEq.rfl
theorem e_vNotT (a : VT) (s : VS) : vNotT a s = (a s).bind fun c s1 => .ok (!c) s1 := eq_of_heq HEq.rfl
theorem e_vAndV_t (a b : VE) (s : VS) : vAndV a b s = (a s).bind fun x s1 => andK x b s1 := eq_of_heq HEq.rfl
theorem e_vOrV_t (a b : VE) (s : VS) : vOrV a b s = (a s).bind fun x s1 => orK x b s1 := eq_of_heq HEq.rfl
theorem e_vNotE_t (a : VE) (s : VS) : vNotE a s = (a s).bind fun x s1 => notK x s1 := eq_of_heq HEq.rfl
theorem e_andK_bl (c : Bool) (b : VE) (s : VS) : andK (.bl c) b s = if c = true then b s else .ok (.bl false) s := eq_of_heq HEq.rfl
theorem e_orK_bl (c : Bool) (b : VE) (s : VS) : orK (.bl c) b s = if c = true then .ok (.bl true) s else b s := eq_of_heq HEq.rfl
theorem e_notK_bl (c : Bool) (s : VS) : notK (.bl c) s = .ok (.bl (!c)) s := eq_of_heq HEq.rfl
theorem e_vIfE (t : VT) (a b : VE) (s : VS) : vIfE t a b s = (t s).bind fun c s1 => if c = true then a s1 else b s1 := eq_of_heq HEq.rfl
theorem e_vChain_t (f g : PV → PV → Option PV) (a b c : VE) (s : VS) : vChain f g a b c s = (a s).bind fun x s1 => (b s1).bind fun y s2 => chK (f x y) g y c s2 := eq_of_heq HEq.rfl
theorem e_chK_bl (k : Bool) (g : PV → PV → Option PV) (y : PV) (c : VE) (s : VS) : chK (some (.bl k)) g y c s = if k = true then (c s).bind fun z s3 => opt (g y z) s3 else .ok (.bl false) s := eq_of_heq HEq.rfl
theorem e_vNil (s : VS) : vNil s = .ok [] s := eq_of_heq HEq.rfl
theorem e_vCons (a : VE) (r : VA) (s : VS) : vCons a r s = (a s).bind fun x s1 => (r s1).bind fun xs s2 => .ok (x :: xs) s2 := eq_of_heq HEq.rfl
theorem e_vConsL (i : Nat) (r : VA) (s : VS) : vConsL i r s = (vVar i s).bind fun _ _ => (r s).bind fun xs s1 => (vVar i s1).bind fun x s2 => .ok (x :: xs) s2 := eq_of_heq HEq.rfl
theorem e_vConsO (a : VE) (r : VA) (s : VS) : vConsO a r s = (a s).bind fun x s1 => if isObj x = true then (r s1).bind fun xs s2 => .ok (x :: xs) s2 else .bad := eq_of_heq HEq.rfl
theorem e_vFn (f : List PV → Option PV) (a : VA) (s : VS) : vFn f a s = (a s).bind fun xs s1 => opt (f xs) s1 := eq_of_heq HEq.rfl
theorem e_vLst (a : VA) (s : VS) : vLst a s = (a s).bind fun xs s1 => if xs.length ≤ 16777216 then .ok (.lst xs) s1 else .bad := eq_of_heq HEq.rfl
theorem e_vTup (a : VA) (s : VS) : vTup a s = (a s).bind fun xs s1 => if xs.length ≤ 16777216 then .ok (.tup xs) s1 else .bad := eq_of_heq HEq.rfl
theorem e_vDct0 (s : VS) : vDct0 s = .ok (.dct []) s := eq_of_heq HEq.rfl
theorem e_vCall (vf : VF) (sl : List Nat) (a : VA) (s : VS) : vCall vf sl a s = (a s).bind fun xs s1 => (vf xs).toE s1 sl := eq_of_heq HEq.rfl
theorem e_vBind (idx : List Nat) (d : List PV) (a k : VA) (s : VS) : vBind idx d a k s = (a s).bind fun xs s1 => (k s1).bind fun ns s2 => .ok (Mn.pick idx (xs ++ (d ++ ns))) s2 := eq_of_heq HEq.rfl
theorem e_pick_nil (l : List PV) : Mn.pick [] l = [] := eq_of_heq HEq.rfl
theorem e_vFor (i : VA) (g : VG) (b : VSt) (s : VS) : vFor i g b s = (i s).st fun xs s1 => vLoop g b xs s1 := eq_of_heq HEq.rfl
theorem e_vIt (f : List PV → Option (List PV)) (a : VA) (s : VS) : vIt f a s = (a s).bind fun xs s1 => opt (f xs) s1 := eq_of_heq HEq.rfl
theorem e_vSeqI (a : VE) (s : VS) : vSeqI a s = (a s).bind fun x s1 => opt (itemsV x) s1 := eq_of_heq HEq.rfl
theorem e_vSl (a : VE) (lo hi : VO) (s : VS) : vSl a lo hi s = (a s).bind fun x s1 => (lo s1).bind fun l s2 => (hi s2).bind fun u s3 => opt (slV x l u) s3 := eq_of_heq HEq.rfl
theorem e_vSlL (i : Nat) (lo hi : VO) (s : VS) : vSlL i lo hi s = (vVar i s).bind fun _ _ => (lo s).bind fun l s2 => (hi s2).bind fun u s3 => (vVar i s3).bind fun x s4 => opt (slV x l u) s4 := eq_of_heq HEq.rfl
theorem e_voNo (s : VS) : voNo s = .ok none s := eq_of_heq HEq.rfl
theorem e_voSome (a : VE) (s : VS) : voSome a s = (a s).bind fun x s1 => opt (intO x) s1 := eq_of_heq HEq.rfl
theorem e_intO (i : Int) : intO (.int i) = some (some i) := eq_of_heq HEq.rfl
theorem e_vSub (i j : Int) : vSub (.int i) (.int j) = some (.int (i - j)) := eq_of_heq HEq.rfl
theorem e_vSubI (i j : Int) : vSubI (.int i) (.int j) = some (.int (i - j)) := eq_of_heq HEq.rfl
theorem e_vSubB (a b : Bool) : vSub (.bl a) (.bl b) = some (.int ((if a = true then 1 else 0) - (if b = true then 1 else 0))) := eq_of_heq HEq.rfl
theorem e_vMulI_ok {i j : Int} (h : BitsOk i j) : vMulI (.int i) (.int j) = some (.int (i * j)) := vIC_pos h
theorem e_vLt (i j : Int) : vLt (.int i) (.int j) = some (.bl (decide (i < j))) := eq_of_heq HEq.rfl
theorem e_vLe (i j : Int) : vLe (.int i) (.int j) = some (.bl (decide (i ≤ j))) := eq_of_heq HEq.rfl
theorem e_vGt (i j : Int) : vGt (.int i) (.int j) = some (.bl (decide (j < i))) := eq_of_heq HEq.rfl
theorem e_vGe (i j : Int) : vGe (.int i) (.int j) = some (.bl (decide (j ≤ i))) := eq_of_heq HEq.rfl
theorem e_vAnd (i j : Int) : vAnd (.int i) (.int j) = some (.int (Builtin.bitAnd i j)) := eq_of_heq HEq.rfl
theorem e_vAddI (i j : Int) : vAddI (.int i) (.int j) = some (.int (i + j)) := eq_of_heq HEq.rfl
theorem e_vNeg (i : Int) : vNeg (.int i) = some (.int (-i)) := eq_of_heq HEq.rfl
theorem e_vMin2 (i j : Int) : vMin2 [.int i, .int j] = some (.int (if j < i then j else i)) := eq_of_heq HEq.rfl
theorem e_vMax2 (i j : Int) : vMax2 [.int i, .int j] = some (.int (if j > i then j else i)) := eq_of_heq HEq.rfl
theorem e_itemsV_tup (xs : List PV) : itemsV (.tup xs) = some xs := eq_of_heq HEq.rfl
theorem e_itemsV_lst (xs : List PV) : itemsV (.lst xs) = some xs := eq_of_heq HEq.rfl
theorem e_itemsV_rol (xs : List PV) : itemsV (.rol xs) = some xs := eq_of_heq HEq.rfl
theorem e_lenV_tup (xs : List PV) : lenV (.tup xs) = some (.int xs.length) := eq_of_heq HEq.rfl
theorem e_lenV_lst (xs : List PV) : lenV (.lst xs) = some (.int xs.length) := eq_of_heq HEq.rfl
theorem e_lenV_rol (xs : List PV) : lenV (.rol xs) = some (.int xs.length) := eq_of_heq HEq.rfl
theorem e_vPar_t (i j : Nat) (a : VA) (s : VS) : vPar i j a s = (a s).st fun xs s1 => parK i j xs s1 := eq_of_heq HEq.rfl
theorem e_parK_2 (i j : Nat) (x y : PV) (s : VS) : parK i j [x, y] s = .nx ((s.set i (some x)).set j (some y)) := eq_of_heq HEq.rfl
theorem e_vPar3_t (i j l : Nat) (a : VA) (s : VS) : vPar3 i j l a s = (a s).st fun xs s1 => par3K i j l xs s1 := eq_of_heq HEq.rfl
theorem e_par3K_3 (i j l : Nat) (x y z : PV) (s : VS) : par3K i j l [x, y, z] s = .nx (((s.set i (some x)).set j (some y)).set l (some z)) := eq_of_heq HEq.rfl
theorem e_vRaise_t (x fld : Str) (dV : List PV) (a : VA) (s : VS) : vRaise x fld dV a s = (a s).st fun xs s1 => raiK x fld (xs ++ dV) s1 := eq_of_heq HEq.rfl
theorem e_raiK_1 (x fld : Str) (v : PV) (s : VS) : raiK x fld [v] s = .xc (.exc x [fld] [v]) s := eq_of_heq HEq.rfl
theorem e_vgT_t (n : Nat) (g : VGs) (xs : List PV) (s : VS) : vgT n g (.tup xs) s = if xs.length = n then g xs s else none := eq_of_heq HEq.rfl
theorem e_vgL_t (n : Nat) (g : VGs) (xs : List PV) (s : VS) : vgL n g (.lst xs) s = if xs.length = n then g xs s else none := eq_of_heq HEq.rfl
theorem e_vgsCons_t (g : VG) (r : VGs) (x : PV) (l : List PV) (s : VS) : vgsCons g r (x :: l) s = (g x s).bind fun s1 => r l s1 := eq_of_heq HEq.rfl
theorem e_vgsNil_t (s : VS) : vgsNil [] s = some s := eq_of_heq HEq.rfl
theorem e_setL (s : VS) (i : Nat) (xs : List PV) : setL s i xs = s.set i (some (.lst xs)) := eq_of_heq HEq.rfl
theorem e_vAppend_t (i : Nat) (a : VE) (s : VS) : vAppend i a s = appK (ownL s i) i a s := eq_of_heq HEq.rfl
theorem e_appK_1 (xs : List PV) (i : Nat) (a : VE) (s : VS) : appK (some xs) i a s = (a s).st fun y s1 => app2K (ownL s1 i) i y s1 := eq_of_heq HEq.rfl
theorem e_app2K_1 (xs : List PV) (i : Nat) (y : PV) (s : VS) : app2K (some xs) i y s = if xs.length < 16777216 then .nx (setL s i (xs ++ [y])) else .bad := eq_of_heq HEq.rfl
theorem e_vPop_t (i : Nat) (s : VS) : vPop i s = popK (ownL s i) i s := eq_of_heq HEq.rfl
theorem e_popK_1 (xs : List PV) (i : Nat) (s : VS) : popK (some xs) i s = pop2K xs.getLast? xs i s := eq_of_heq HEq.rfl
theorem e_pop2K_1 (y : PV) (xs : List PV) (i : Nat) (s : VS) : pop2K (some y) xs i s = .ok y (setL s i xs.dropLast) := eq_of_heq HEq.rfl
theorem e_vReverse_t (i : Nat) (s : VS) : vReverse i s = revK (ownL s i) i s := eq_of_heq HEq.rfl
theorem e_revK_1 (xs : List PV) (i : Nat) (s : VS) : revK (some xs) i s = .nx (setL s i xs.reverse) := eq_of_heq HEq.rfl
theorem e_vSetSub_t (a : VE) (i : Nat) (b : VE) (s : VS) : vSetSub a i b s = (a s).st fun y s1 => ssK (ownL s1 i) y i b s1 := eq_of_heq HEq.rfl
theorem e_ssK_1 (xs : List PV) (y : PV) (i : Nat) (b : VE) (s : VS) : ssK (some xs) y i b s = (b s).st fun x s2 => ss2K x (ownL s2 i) y i s2 := eq_of_heq HEq.rfl
theorem e_ss2K_1 (z : Int) (xs : List PV) (y : PV) (i : Nat) (s : VS) : ss2K (.int z) (some xs) y i s = ss3K (ixN xs.length z) xs y i s := eq_of_heq HEq.rfl
theorem e_ss3K_1 (j : Nat) (xs : List PV) (y : PV) (i : Nat) (s : VS) : ss3K (some j) xs y i s = .nx (setL s i (xs.set j y)) := eq_of_heq HEq.rfl
theorem e_vAug_t (f : PV → PV → Option PV) (i : Nat) (b : VE) (s : VS) : vAug f i b s = (vVar i s).st fun x _ => (b s).st fun y s1 => augK (f x y) i s1 := eq_of_heq HEq.rfl
theorem e_augK_1 (z : PV) (i : Nat) (s : VS) : augK (some z) i s = .nx (s.set i (some z)) := eq_of_heq HEq.rfl
theorem e_vAugS_t (f : PV → PV → Option PV) (i : Nat) (b a : VE) (s : VS) : vAugS f i b a s = asK (ownL s i) f i b a s := eq_of_heq HEq.rfl
theorem e_asK_1 (xs : List PV) (f : PV → PV → Option PV) (i : Nat) (b a : VE) (s : VS) : asK (some xs) f i b a s = (b s).st fun x s1 => as2K x (ownL s1 i) f i a s1 := eq_of_heq HEq.rfl
theorem e_as2K_1 (z : Int) (xs : List PV) (f : PV → PV → Option PV) (i : Nat) (a : VE) (s : VS) : as2K (.int z) (some xs) f i a s = as3K (ixN xs.length z) z xs f i a s := eq_of_heq HEq.rfl
theorem e_as3K_1 (j : Nat) (z : Int) (xs : List PV) (f : PV → PV → Option PV) (i : Nat) (a : VE) (s : VS) : as3K (some j) z xs f i a s = as4K xs[j]? j z f i a s := eq_of_heq HEq.rfl
theorem e_as4K_1 (u : PV) (j : Nat) (z : Int) (f : PV → PV → Option PV) (i : Nat) (a : VE) (s : VS) : as4K (some u) j z f i a s = (a s).st fun y s2 => as5K (f u y) (ownL s2 i) j z i s2 := eq_of_heq HEq.rfl
theorem e_as5K_1 (v : PV) (ys : List PV) (j : Nat) (z : Int) (i : Nat) (s : VS) : as5K (some v) (some ys) j z i s = if ixN ys.length z = some j then .nx (setL s i (ys.set j v)) else .bad := eq_of_heq HEq.rfl
theorem e_vTry_t (cs : List Str) (ca : Str → Bool) (i : Nat) (b w : VSt) (s : VS) : vTry cs ca i b w s = tryK cs ca i w (b s) := eq_of_heq HEq.rfl
theorem e_tryK_nx (cs : List Str) (ca : Str → Bool) (i : Nat) (w : VSt) (s : VS) : tryK cs ca i w (.nx s) = .nx s := eq_of_heq HEq.rfl
theorem e_tryK_rt (cs : List Str) (ca : Str → Bool) (i : Nat) (w : VSt) (v : PV) (s : VS) : tryK cs ca i w (.rt v s) = .rt v s := eq_of_heq HEq.rfl
theorem e_suf_nx (i : Nat) (s : VS) : (SR.nx s).suf i = .nx (s.set i none) := eq_of_heq HEq.rfl
theorem e_suf_rt (i : Nat) (v : PV) (s : VS) : (SR.rt v s).suf i = .rt v s := eq_of_heq HEq.rfl
theorem e_vXf (cs : List Str) (n : Str) (a : VE) (s : VS) : vXf cs n a s = (a s).bind fun x s1 => opt (xfV cs n x) s1 := eq_of_heq HEq.rfl
theorem e_vYes (s : VS) : vYes s = .ok true s := eq_of_heq HEq.rfl
theorem e_vComp (i : VA) (tg : Tg) (t : VT) (e : VE) (vs : List Nat) (s : VS) : vComp i tg t e vs s = (i s).bind fun xs s1 => (vCLoop (tgVV tg) t e vs xs [] (wipeV s1 vs)).bind fun ys s2 => .ok (.lst ys) (backV s1 s2 vs) := eq_of_heq HEq.rfl
theorem e_vBm (g : PV → List PV → Option PV) (a : VE) (r : VA) (s : VS) : vBm g a r s = (a s).bind fun x s1 => if (refItems x).isSome = true then (r s1).bind fun ys s2 => opt (g x ys) s2 else .bad := eq_of_heq HEq.rfl
theorem e_refItems_lst (xs : List PV) : (refItems (.lst xs)).isSome = true := eq_of_heq HEq.rfl
theorem e_vVar (i : Nat) (s : VS) (v : PV) (h : s[i]? = some (some v)) : vVar i s = .ok v s := by unfold vVar; rw [h]
theorem v0 (a : PV) (r : VS) : vVar 0 (some a :: r) = .ok a (some a :: r) := eq_of_heq HEq.rfl
def varK (o : Option (Option PV)) (s : VS) : ER PV := match o with
  | some (some v) => .ok v s
  | _ => .bad
theorem e_vVar_t (i : Nat) (s : VS) : vVar i s = varK s[i]? s := eq_of_heq HEq.rfl
theorem e_varK (v : PV) (s : VS) : varK (some (some v)) s = .ok v s := eq_of_heq HEq.rfl
def ownK (o : Option (Option PV)) : Option (List PV) := match o with
  | some (some (.lst xs)) => some xs
  | _ => none
theorem e_ownL (s : VS) (i : Nat) : ownL s i = ownK s[i]? := eq_of_heq HEq.rfl
theorem e_ownK (xs : List PV) : ownK (some (some (.lst xs))) = some xs := eq_of_heq HEq.rfl
theorem e_pick (j : Nat) (idx : List Nat) (l : List PV) (x : PV) (h : l[j]? = some x) : Mn.pick (j :: idx) l = x :: Mn.pick idx l := by
  unfold Mn.pick; rw [List.filterMap_cons, h]
theorem e_pick0 (idx : List Nat) (a : PV) (r : List PV) : Mn.pick (0 :: idx) (a :: r) = a :: Mn.pick idx (a :: r) := e_pick _ _ _ _ rfl
theorem e_pick1 (idx : List Nat) (a b : PV) (r : List PV) : Mn.pick (1 :: idx) (a :: b :: r) = b :: Mn.pick idx (a :: b :: r) := e_pick _ _ _ _ rfl
theorem e_pick2 (idx : List Nat) (a b c : PV) (r : List PV) : Mn.pick (2 :: idx) (a :: b :: c :: r) = c :: Mn.pick idx (a :: b :: c :: r) := e_pick _ _ _ _ rfl
theorem e_pick3 (idx : List Nat) (a b c d : PV) (r : List PV) : Mn.pick (3 :: idx) (a :: b :: c :: d :: r) = d :: Mn.pick idx (a :: b :: c :: d :: r) := e_pick _ _ _ _ rfl
theorem e_pick4 (idx : List Nat) (a b c d e : PV) (r : List PV) : Mn.pick (4 :: idx) (a :: b :: c :: d :: e :: r) = e :: Mn.pick idx (a :: b :: c :: d :: e :: r) := e_pick _ _ _ _ rfl
theorem e_startV (N : Nat) (xs : List PV) : startV N xs = xs.map some ++ List.replicate (N - xs.length) none := eq_of_heq HEq.rfl

theorem e_vAsgT (is : List Nat) (a : VA) (s : VS) : vAsgT is a s = (a s).st fun xs s1 => if xs.length = is.length ∧ xs.length ≤ 16777216 then .nx (setM s1 is xs) else .bad := eq_of_heq HEq.rfl
theorem finV_rt0 (v : PV) (s : VS) : finV [] (.rt v s) = .ok v [] := eq_of_heq HEq.rfl
theorem finV_nx0 (s : VS) : finV [] (.nx s) = .ok .non [] := eq_of_heq HEq.rfl
theorem finV_xc0 (v : PV) (s : VS) : finV [] (.xc v s) = .xc v [] := eq_of_heq HEq.rfl
theorem st_ok {α : Type} (a : α) (s : VS) (f : α → VSt) : (ER.ok a s).st f = f a s := eq_of_heq HEq.rfl
theorem st_xc {α : Type} (e : PV) (s : VS) (f : α → VSt) : (ER.xc e s : ER α).st f = .xc e s := eq_of_heq HEq.rfl
theorem seq_nx (s : VS) (f : VSt) : (SR.nx s).seq f = f s := eq_of_heq HEq.rfl
theorem seq_rt (v : PV) (s : VS) (f : VSt) : (SR.rt v s).seq f = .rt v s := eq_of_heq HEq.rfl
theorem seq_br (s : VS) (f : VSt) : (SR.br s).seq f = .br s := eq_of_heq HEq.rfl
theorem seq_ct (s : VS) (f : VSt) : (SR.ct s).seq f = .ct s := eq_of_heq HEq.rfl
theorem seq_xc (v : PV) (s : VS) (f : VSt) : (SR.xc v s).seq f = .xc v s := eq_of_heq HEq.rfl
theorem oS_some (s : VS) : oS (some s) = .nx s := eq_of_heq HEq.rfl
theorem toE_ok (v : PV) (o : List PV) (s : VS) (sl : List Nat) : (FR.ok v o).toE s sl = .ok v (setM s sl o) := eq_of_heq HEq.rfl
theorem toE_xc (v : PV) (o : List PV) (s : VS) (sl : List Nat) : (FR.xc v o).toE s sl = .xc v (setM s sl o) := eq_of_heq HEq.rfl
theorem toTR_ok (v : PV) (s : VS) : toTR (.ok v s) = .ok v := eq_of_heq HEq.rfl
theorem toTR_xc (v : PV) (s : VS) : toTR (.xc v s) = .xc v := eq_of_heq HEq.rfl
theorem setM_nil {α : Type} (s : List (Option α)) (o : List α) : setM s [] o = s := eq_of_heq HEq.rfl
theorem setM_cons {α : Type} (s : List (Option α)) (i : Nat) (is : List Nat) (x : α) (o : List α) : setM s (i :: is) (x :: o) = setM (s.set i (some x)) is o := eq_of_heq HEq.rfl
theorem tst_bl (b : Bool) : tst (.bl b) = some b := eq_of_heq HEq.rfl
theorem vI_int (g : Int → Int → PV) (i j : Int) : vI g (.int i) (.int j) = some (g i j) := eq_of_heq HEq.rfl
theorem vMul_int {i j : Int} (h : BitsOk i j) : vMul (.int i) (.int j) = some (.int (i * j)) := if_pos h
theorem vAdd_int (i j : Int) : vAdd (.int i) (.int j) = some (.int (i + j)) := eq_of_heq HEq.rfl
theorem bits_ok {z y : Int} (a b : Nat) (hz : z.natAbs < 2 ^ a) (hy : y.natAbs < 2 ^ b) (h : a + b ≤ 134217728) : BitsOk z y := mulx_ok hz hy h
theorem small_ok {z y : Int} (hz : -(2 ^ 130) < z ∧ z < 2 ^ 130) (hy : -(2 ^ 130) < y ∧ y < 2 ^ 130) : BitsOk z y := mulx_ok (a := 130) (b := 130) (by omega) (by omega) (by decide)
theorem vFdiv_int {i j : Int} (h : j ≠ 0) (h2 : j.natAbs.log2 < 9000) : vFdiv (.int i) (.int j) = some (.int (i.fdiv j)) := vIC_pos ⟨h, h2⟩
theorem vFdiv_sm {i j : Int} (h : 0 < j) (h2 : j < 2 ^ 200) : vFdiv (.int i) (.int j) = some (.int (i / j)) := by
  rw [vFdiv_int (by omega) (by
    have : j.natAbs.log2 < 200 := (Nat.log2_lt (by omega)).mpr (by omega)
    omega), Int.fdiv_eq_ediv_of_nonneg _ (by omega)]
theorem vMod_int {i j : Int} (h : j ≠ 0) : vMod (.int i) (.int j) = some (.int (i.fmod j)) := vIC_pos h
theorem vMod_pos {i j : Int} (h : 0 < j) : vMod (.int i) (.int j) = some (.int (i % j)) := by
  rw [vMod_int (by omega), Int.fmod_eq_emod_of_nonneg _ (by omega)]
theorem bits_le' {i : Int} {n : Nat} (h : i.natAbs < 2 ^ n) : Builtin.Int.intBits i ≤ n := bits_le h
theorem vPow_int {i j : Int} (h : PowOk i j) : vPow (.int i) (.int j) = some (.int (i ^ j.toNat)) := vIC_pos h
theorem vPow_sm {i : Int} (j : Nat) (h : i.natAbs < 2 ^ 1000) (hj : j ≤ 1000) : vPow (.int i) (.int (j : Int)) = some (.int (i ^ j)) := by
  rw [vPow_int ⟨by omega, by
    have h1 := bits_le' h
    have h2 : (Builtin.Int.intBits i : Int) ≤ 1000 := by exact_mod_cast h1
    have h3 : (Builtin.Int.intBits i : Int) * j ≤ 1000 * 1000 := Int.mul_le_mul h2 (by omega) (by omega) (by decide)
    omega⟩]
  rfl
theorem f1_eq (g : PV → Option PV) (x : PV) : f1 g [x] = g x := eq_of_heq HEq.rfl
theorem f2I_eq (g : Int → Int → Int) (i j : Int) : f2I g [.int i, .int j] = some (.int (g i j)) := eq_of_heq HEq.rfl
theorem rng1_eq {j : Int} (h0 : 0 ≤ j) (h : j < 2 ^ 60) : rng1 [.int j] = some (rngV 0 j.toNat) := if_pos ⟨by omega, by omega⟩
theorem rng2_eq {i j : Int} (h0 : -(2 ^ 60) ≤ i ∧ i < 2 ^ 60) (h : -(2 ^ 60) ≤ j ∧ j < 2 ^ 60) : rng2 [.int i, .int j] = some (rngV i (j - i).toNat) := if_pos ⟨⟨by omega, by omega⟩, by omega, by omega⟩

theorem lt_sz0 : (0 < 16777216) = True := eq_true (by decide)
theorem lt_sz1 : (1 < 16777216) = True := eq_true (by decide)
theorem lt_sz2 : (2 < 16777216) = True := eq_true (by decide)
theorem lt_sz3 : (3 < 16777216) = True := eq_true (by decide)
theorem lt_sz4 : (4 < 16777216) = True := eq_true (by decide)
theorem lt_sz5 : (5 < 16777216) = True := eq_true (by decide)
/-! ### loops by an invariant -/
theorem vLoop_nil {g : VG} {b : VSt} {s : VS} : vLoop g b [] s = .nx s := eq_of_heq HEq.rfl
/-- every turn goes on -/
theorem loop_all {g : VG} {b : VSt} {xs : List PV} (I : Nat → VS → Prop) {s : VS} (h0 : I 0 s) (step : ∀ i x s, xs[i]? = some x → I i s → ∃ s1 s2, g x s = some s1 ∧ (b s1 = .nx s2 ∨ b s1 = .ct s2) ∧ I (i + 1) s2) : ∃ s', vLoop g b xs s = .nx s' ∧ I xs.length s' := by
  have key : ∀ (n i : Nat) (s : VS), xs.length - i = n → i ≤ xs.length → I i s → ∃ s', vLoop g b (xs.drop i) s = .nx s' ∧ I xs.length s' := by
    intro n
    induction n with
    | zero =>
      intro i s hn hi hI
      have e : i = xs.length := by omega
      subst e
      rw [List.drop_length]
      exact ⟨s, rfl, hI⟩
    | succ n ih =>
      intro i s hn hi hI
      have hlt : i < xs.length := by omega
      rw [List.drop_eq_getElem_cons hlt]
      obtain ⟨s1, s2, e1, e2, h2⟩ := step i xs[i] s (by simp) hI
      obtain ⟨s3, e3, h3⟩ := ih (i + 1) s2 (by omega) hlt h2
      refine ⟨s3, ?_, h3⟩
      rcases e2 with e2 | e2 <;> simp only [vLoop, e1, e2, e3]
  simpa using key xs.length 0 s (by omega) (Nat.zero_le _) h0
/-- every turn goes on till one leaves -/
theorem loop_till {g : VG} {b : VSt} {xs : List PV} (I : Nat → VS → Prop) (R : SR → Prop) {s : VS} (h0 : I 0 s) (step : ∀ i x s, xs[i]? = some x → I i s → ∃ s1, g x s = some s1 ∧ ((∃ s2, (b s1 = .nx s2 ∨ b s1 = .ct s2) ∧ I (i + 1) s2) ∨ (∃ s2, b s1 = .br s2 ∧ R (.nx s2)) ∨ (∃ v s2, b s1 = .rt v s2 ∧ R (.rt v s2)) ∨ (∃ v s2, b s1 = .xc v s2 ∧ R (.xc v s2))))
    (fin : ∀ s, I xs.length s → R (.nx s)) : R (vLoop g b xs s) := by
  have key : ∀ (n i : Nat) (s : VS), xs.length - i = n → i ≤ xs.length → I i s → R (vLoop g b (xs.drop i) s) := by
    intro n
    induction n with
    | zero =>
      intro i s hn hi hI
      have e : i = xs.length := by omega
      subst e
      rw [List.drop_length]
      exact fin s hI
    | succ n ih =>
      intro i s hn hi hI
      have hlt : i < xs.length := by omega
      rw [List.drop_eq_getElem_cons hlt]
      obtain ⟨s1, e1, c⟩ := step i xs[i] s (by simp) hI
      rcases c with ⟨s2, e2, h2⟩ | ⟨s2, e2, h2⟩ | ⟨v, s2, e2, h2⟩ | ⟨v, s2, e2, h2⟩
      · rw [show vLoop g b (xs[i] :: xs.drop (i + 1)) s = vLoop g b (xs.drop (i + 1)) s2 by rcases e2 with e2 | e2 <;> simp only [vLoop, e1, e2]]
        exact ih (i + 1) s2 (by omega) hlt h2
      · simpa only [vLoop, e1, e2] using h2
      · simpa only [vLoop, e1, e2] using h2
      · simpa only [vLoop, e1, e2] using h2
  simpa using key xs.length 0 s (by omega) (Nat.zero_le _) h0
theorem rngV_at {lo : Int} {n i : Nat} {x : PV} (h : (rngV lo n)[i]? = some x) : i < n ∧ x = .int (lo + i) := by
  unfold rngV at h
  rw [List.getElem?_map] at h
  obtain ⟨j, hj, rfl⟩ := Option.map_eq_some_iff.mp h
  obtain ⟨h1, h2⟩ := List.getElem?_eq_some_iff.mp hj
  rw [List.length_range] at h1
  simp only [List.getElem_range] at h2
  subst h2
  exact ⟨h1, rfl⟩
theorem rngV_len {lo : Int} {n : Nat} : (rngV lo n).length = n := by simp [rngV]
/-! ### data -/
theorem atI_nat {α : Type} {xs : List α} {i : Nat} : atI xs (i : Int) = xs[i]? := by
  unfold atI ixN
  by_cases h : i < xs.length
  · rw [if_pos (by omega), if_pos (by omega)]
    show xs[(i : Int).toNat]? = _
    rw [Int.toNat_natCast]
  · rw [if_pos (by omega), if_neg (by omega), List.getElem?_eq_none (by omega)]; rfl
theorem atI_pos {α : Type} {xs : List α} {i : Int} (h0 : 0 ≤ i) : atI xs i = xs[i.toNat]? := by
  obtain ⟨k, rfl⟩ := Int.eq_ofNat_of_zero_le h0
  rw [atI_nat, Int.toNat_natCast]
theorem vIx_eq {x : PV} {xs : List PV} {i : Int} (h : itemsV x = some xs) : vIx x (.int i) = atI xs i := by unfold vIx; rw [h]
theorem ix_lst (xs : List PV) (i : Int) : vIx (.lst xs) (.int i) = atI xs i := eq_of_heq HEq.rfl
theorem ix_tup (xs : List PV) (i : Int) : vIx (.tup xs) (.int i) = atI xs i := eq_of_heq HEq.rfl
theorem ix_rol (xs : List PV) (i : Int) : vIx (.rol xs) (.int i) = atI xs i := eq_of_heq HEq.rfl
theorem atI_ints {ns : List Int} {i : Int} (h0 : 0 ≤ i) (h1 : i < ns.length) : ∃ c, atI (ns.map PV.int) i = some (.int c) ∧ c ∈ ns := by
  rw [atI_pos h0, List.getElem?_map, List.getElem?_eq_getElem (by omega)]
  exact ⟨_, rfl, List.getElem_mem _⟩
end Vn
end
section
set_option maxHeartbeats 2000000
namespace Mn
open PySem PySem.Spec PyProof.Rows L2

/-! ### x[::-1], lists and tuples -/
section
variable {prog : Program} {w : World} {A : Around} {E : Value → Shared → Prop} {s : Shared}
theorem places_back (n : Nat) : Builtin.Slice.slicePlaces ((n : Int) - 1) (-1) (-1) = n := by
  unfold Builtin.Slice.slicePlaces
  rw [if_neg (show ¬ ((-1 : Int) > 0) by decide), show (-(-1) : Int) = 1 from rfl, Int.ediv_one]
  split <;> omega
theorem pick_back (its : Array Value) : ((List.range its.size).filterMap fun (m : Nat) => its[((its.size : Int) - 1 + (m : Int) * -1).toNat]?) = its.toList.reverse := by
  have e1 : (fun (m : Nat) => its[((its.size : Int) - 1 + (m : Int) * -1).toNat]?) = (fun i => its[i]?) ∘ fun m => its.size - 1 - m := by
    funext m
    show _ = its[its.size - 1 - m]?
    rw [show ((its.size : Int) - 1 + (m : Int) * -1).toNat = its.size - 1 - m by omega]
  rw [e1, ← List.filterMap_map, PySem.W.krv_range, List.filterMap_reverse, PySem.W.krv_all]
theorem applied_back {b : Addr} {vl vu vs : Value} {n : Nat} {R : Int × Int × Nat → Shared → Prop} (so : s.heap.IsSliceOf b vl vu vs) (p1 : IsPart vl none) (p2 : IsPart vu none) (p3 : IsPart vs (some (-1)))
    (k : R ((n : Int) - 1, -1, n) s) : wpAny (model prog w) A (Builtin.Slice.sliceApplied (.ref b) (pure (n : Int))) R E s := by
  obtain ⟨ob, g, _, dd⟩ := so
  unfold Builtin.Slice.sliceApplied
  unfold Builtin.Slice.sliceFields
  refine wpAny_bind (wpAny_bind (wpAny_field g dd (x := vl) rfl ?_))
  refine wpAny_bind (wpAny_field g dd (x := vu) rfl (wpAny_bind (wpAny_field g dd (x := vs) rfl (wpAny_pure ?_))))
  refine wpAny_bind (HT.slicePart_ p3 ?_)
  show wpAny _ _ (if ((-1 : Int) == 0) = true then _ else _) _ _ s
  rw [if_neg (show ¬ ((-1 : Int) == 0) = true by decide)]
  refine wpAny_bind (HT.slicePart_ p1 ?_)
  refine wpAny_bind (HT.slicePart_ p2 ?_)
  refine wpAny_bind (wpAny_pure ?_)
  show wpAny _ _ (pure ((n : Int) - 1, (-1 : Int), Builtin.Slice.slicePlaces ((n : Int) - 1) (-1) (-1))) _ _ s
  rw [places_back]
  exact wpAny_pure k
theorem tuple_back {tq b : Addr} {its : Array Value} {vl vu vs : Value} {R : Value → Shared → Prop} (tp : IsTup s.heap tq its) (so : s.heap.IsSliceOf b vl vu vs) (p1 : IsPart vl none) (p2 : IsPart vu none) (p3 : IsPart vs (some (-1)))
    (k : R (.ref s.heap.objs.size) { s with heap := s.heap.push { cls := .type "tuple", data := .seq its.toList.reverse.toArray } }) (hz : its.size ≤ sizeLine) : wpAny (model prog w) A (getItem (.ref tq) (.ref b)) R E s := by
  have fit : sizeOk (.seq its.toList.reverse.toArray) := by
    show its.toList.reverse.toArray.size ≤ sizeLine
    simpa using hz
  have tb : s.TypeIs (.ref b) "slice" := let ⟨ob, g, c, _⟩ := so; ⟨ob, g, c⟩
  unfold getItem
  try with_reducible refine wpAny_holding (?_)
  first | refine wpAny_bind (wpAny_pure (?_)) | skip
  refine wpAny_bind <| wpAny_sequenceKey tp.typeIs (by decide) ?_
  refine wpAny_bind <| wpAny_callSpecial?_slot (name := Str.ofString "__getitem__") tp.typeIs PyProof.Rows.slot_tuple_getitem <| wpAny_call_entry PyProof.Rows.slot_tuple_getitem tp.typeIs entry_tuple_getitem ?_ (args_tuple_getitem _ _)
  show wpAny _ _ (Builtin.Tuple.tupleItemsOf (.ref tq) >>= _) _ _ s
  refine wpAny_bind <| tupleItemsOf_ tp ?_
  refine wpAny_bind <| wpAny_typeOf tb ?_
  rw [if_pos (show _ from by decide)]
  refine wpAny_bind <| applied_back so p1 p2 p3 ?_
  have no : ¬ (((its.size : Int) - 1 == 0 && (-1 : Int) == 1 && its.size == its.size) = true) := by simp
  show wpAny _ _ (if ((its.size : Int) - 1 == 0 && (-1 : Int) == 1 && its.size == its.size) = true then _ else _) _ _ s
  rw [if_neg no, pick_back]
  first
    | exact wpAny_bind (m := Builtin.Tuple.tupleExact _) <| wpAny_newObj_type (wpAny_pure ⟨_, rfl, wpAny_pure k⟩) fit
    | exact wpAny_bind (m := Builtin.Tuple.tupleExact _) <| wpAny_newObj_type (wpAny_bind (wpAny_pure (wpAny_pure ⟨_, rfl, wpAny_pure k⟩))) fit
    | exact wpAny_bind <| wpAny_bind (m := Builtin.Tuple.tupleExact _) <| wpAny_newObj_type (wpAny_pure (wpAny_pure ⟨_, rfl, wpAny_pure k⟩)) fit
    | exact wpAny_bind <| wpAny_bind (m := Builtin.Tuple.tupleExact _) <| wpAny_newObj_type (wpAny_pure ⟨_, rfl, wpAny_pure k⟩) fit
end
def tBack (K : PySem.W.Frag) (te : TE) : TE := fun σ H Q => te σ H fun x H1 => ∃ a xs, x = .ref a ∧ ((SqL K H1 a xs ∧ ∀ p, H1 p = none → Q (.ref p) (upd H1 p (.lst xs.reverse))) ∨ (SqT K H1 a xs ∧ ∀ p, H1 p = none → Q (.ref p) (upd H1 p (.tup xs.reverse))))
theorem pe_back {X : Cx} {e : Expr} {te : TE} {n : Nat} {p1 p2 p3 pos : Pos} (he : PE X e te) : PE X (.Subscript e (.Slice none none (some (.UnaryOp .USub (.Constant (.int 1) n p1) p2)) p3) pos) (tBack X.K te) := by
  refine ⟨fun pins s σ H Q I h => ?_⟩
  refine Subscript_ <| thn (he.run pins s σ H _ I h) fun v s1 ⟨x, H1, I1, r1, a, xs, ex, q⟩ => ?_
  subst ex
  cases r1
  have hst : PO X (some (.UnaryOp .USub (.Constant (.int 1) n p1) p2)) (tPart (tUn (rU fun i => .int (-i)) (tC (.int 1)))) := po_some <| pe_un un_neg pe_int
  refine wpAny_Slice <| thn (po_none.run pins s1 σ H1 (fun o H2 => o = none ∧ H2 = H1) I1 ⟨rfl, rfl⟩) fun vl s2 ⟨_, _, I2, pl, rfl, rfl⟩ => ?_
  refine thn (po_none.run pins s2 σ _ (fun o H3 => o = none ∧ H3 = _) I2 ⟨rfl, rfl⟩) fun vu s3 ⟨_, _, I3, pu, rfl, e3⟩ => ?_
  subst e3
  refine thn (hst.run pins s3 σ _ (fun o H4 => o = some (-1) ∧ H4 = _) I3 ⟨1, rfl, -1, rfl, rfl, rfl⟩) fun vs s4 ⟨_, _, I4, ps, rfl, e4⟩ => ?_
  subst e4
  have I5 : Inv X pins σ _ { s4 with heap := s4.heap.push { cls := .type "slice", data := .fields #[vl, vu, vs] } } := I4.kept (t' := s4.toks) fun b ob z => Heap.get?_push_of_some _ z
  show wpAny (model X.prog X.w) X.A (subscriptTail e (.Slice none none (some (.UnaryOp .USub (.Constant (.int 1) n p1) p2)) p3) (.ref a) (.ref s4.heap.objs.size)) (EP X pins σ Q) X.xe { s4 with heap := s4.heap.push { cls := .type "slice", data := .fields #[vl, vu, vs] } }
  rcases q with ⟨hx, q⟩ | ⟨hx, q⟩
  · obtain ⟨its, r, ht, hz⟩ := I5.list hx
    have hlen := r.length
    refine tail_any (ops := [.ref a, .ref s4.heap.objs.size]) ht.isList.typeIs PySem.slot_list_getitem.lookup ?_ (by with_unfolding_all rfl)
    refine wpAny_getItem_list_slice ht.isList (Heap.IsSliceOf.new _ vl vu vs) pl pu ps (by decide) ?_ (by rw [List.size_toArray]; omega)
    rw [PySem.W.krv_pick]
    refine ⟨.ref _, _, I5.laid (t' := s4.toks) (o := .lst xs.reverse) (fun b ob z => Heap.get?_push_of_some _ z) (Nat.le_refl _) ?_, rfl, q _ (I5.hok.fresh (Nat.le_refl _))⟩
    exact ⟨by simpa using hz, _, 0, r.reverse, Heap.get?_push_size _ rfl⟩
  · obtain ⟨its, r, ht, hz⟩ := I5.tuple hx
    have hlen := r.length
    refine tail_any (ops := [.ref a, .ref s4.heap.objs.size]) ht.typeIs PyProof.Rows.slot_tuple_getitem.lookup ?_ (by with_unfolding_all rfl)
    refine tuple_back ht (Heap.IsSliceOf.new _ vl vu vs) pl pu ps ?_ (by rw [List.size_toArray]; omega)
    refine ⟨.ref _, _, I5.laid (t' := s4.toks) (o := .tup xs.reverse) (fun b ob z => Heap.get?_push_of_some _ z) (Nat.le_refl _) ?_, rfl, q _ (I5.hok.fresh (Nat.le_refl _))⟩
    exact ⟨by simpa using hz, _, r.reverse, IsTup.new _ _⟩
def mRev (x : M) (h : MH) (Q : KM) : Prop := match x with
  | .tup xs => Q (.tup xs.reverse) h
  | .ref n => ∃ xs, itemsM h (.ref n) = some xs ∧ Q (.ref h.length) (h ++ [.lst xs.reverse])
  | _ => False
def wRev (w : MTE) : MTE := wUn mRev w
theorem m_rev {X : Cx} {W : WX} {e : Expr} {we : MTE} {n : Nat} {p1 p2 p3 pos : Pos} (he : EOk X W e we) : EOk X W (.Subscript e (.Slice none none (some (.UnaryOp .USub (.Constant (.int 1) n p1) p2)) p3) pos) (wRev we) :=
  PE.mono (pe_back he) fun σ H Q ⟨f, sm, mh, Q', E, a, q, k⟩ =>
    a.go q fun f1 mh1 H1 m v p1 x1 a1 r1 q1 => by
      have back : ∀ v H', QL X.K f1 H1 Q' v H' → Q v H' := fun v H' z => k v H' (z.back p1 x1)
      unfold mRev at q1
      split at q1
      · rename_i xs
        obtain ⟨b, vs, rfl, sq, rr⟩ := r1
        exact ⟨b, vs, rfl, .inr ⟨sq, fun pa hp => back _ _ (QL.tup a1.h rr.reverse hp q1)⟩⟩
      · rename_i n
        obtain ⟨xs, h1, q4⟩ := q1
        obtain ⟨b, vs, rfl, sq, rr⟩ := ref_rd a1.h r1 h1
        exact ⟨b, vs, rfl, .inl ⟨.inl sq, fun pa hp => back _ _ (QL.lst a1.h rr.reverse hp q4)⟩⟩
      · exact q1.elim
end Mn
end
section
set_option maxHeartbeats 2000000
namespace Vn
open PySem PySem.Spec PyProof.Rows L2 Mn
/-! ### x[::-1] -/
def revV : PV → Option PV
  | .tup xs => some (.tup xs.reverse)
  | .lst xs => some (.lst xs.reverse)
  | .rol xs => some (.lst xs.reverse)
  | _ => none
theorem u_rev {nw : Bool} : UnSim nw mRev revV := by
  intro A h x mx v f rx e Q k
  unfold revV at e
  split at e
  · cases e
    obtain ⟨ms, rfl, r⟩ := rx
    exact k _ _ (out_sc ⟨_, rfl, r.reverse⟩ fun n e => by cases e)
  · cases e
    obtain ⟨n, ms, rfl, g, r⟩ := rx
    exact ⟨ms, by simp only [itemsM, g], k _ _ (out_lst r.reverse f)⟩
  · cases e
    obtain ⟨n, ms, rfl, g, r⟩ := rx
    exact ⟨ms, by simp only [itemsM, g], k _ _ (out_lst r.reverse f)⟩
  · cases e
theorem e_vUn_ (f : PV → Option PV) (a : VE) (s : VS) : vUn f a s = (a s).bind fun x s1 => opt (f x) s1 := eq_of_heq HEq.rfl
theorem revV_tup (xs : List PV) : revV (.tup xs) = some (.tup xs.reverse) := rfl
theorem revV_lst (xs : List PV) : revV (.lst xs) = some (.lst xs.reverse) := rfl
end Vn
end
section
set_option maxHeartbeats 2000000
namespace SrtO
open PySem PyProof.Rows Srt
section
variable {prog : Program} {w : World} {A : Around} {E : Value → Shared → Prop} {s : Shared}
theorem collect_tup {l : Addr} {vs : List Value} {Q : List Value → Shared → Prop} (hl : IsTup s.heap l vs.toArray)
    (h : Q vs { s with heap := (s.heap.push (seqObj "list" #[] 0)).update s.heap.objs.size (Obj.mapSeq (· ++ vs.toArray)) }) (hsz : vs.length ≤ sizeLine) :
    wpAny (model prog w) A (collect (.ref l)) Q E s := by
  obtain ⟨o, ho, hc, n, hd⟩ := id hl
  unfold collect
  refine wpAny_bind (wpAny_runValue (codeAny_builtin entry_proto_collect' ?_))
  show wpAny _ _ (do again (.builtin "list.__iadd__" ⟨[← newList [], .ref l], []⟩)) _ _ s
  refine wpAny_bind (wpAny_newList (wpAny_pure ⟨Code.quiet_builtin _ (by decide +kernel), codeAny_builtin entry_list_iadd' ?_⟩))
  show wpAny _ _ (Builtin.List.listExtendWith (.ref s.heap.objs.size) (.ref l) (.ref s.heap.objs.size)) _ _ { s with heap := s.heap.push (seqObj "list" #[] 0) }
  unfold Builtin.List.listExtendWith
  have ho' : (s.heap.push (seqObj "list" #[] 0)).get? l = some o := Heap.get?_push_of_some _ ho
  refine wpAny_bind (wpAny_typeOf (T := "tuple") ⟨o, ho', hc⟩ ?_)
  have ht : (Value.type "tuple" == Value.type "tuple") = true := by rfl
  rw [if_pos (by rw [ht]; simp)]
  refine wpAny_bind (listItems_at ho' hd ?_)
  refine wpAny_bind (listItems_at (xs := #[]) (n := 0) (Heap.get?_push_size _ rfl) rfl ?_)
  rw [if_neg (by simp)]
  refine wpAny_bind (listUpdate_at (xs := #[]) (n := 0) (Heap.get?_push_size _ rfl) rfl ?_ (Nat.zero_le _) (by show (#[] ++ vs.toArray).size ≤ sizeLine + 1; simp only [Array.size_append, List.size_toArray, List.length_nil]; omega))
  refine wpAny_pure ?_
  show wpAny (model prog w) A (do
      let o ← load s.heap.objs.size
      match o.data with
      | .seq xs _ => pure xs.toList
      | _ => unsupported "internal:collect") Q E { s with heap := (s.heap.push (seqObj "list" #[] 0)).update s.heap.objs.size (Obj.mapSeq (· ++ vs.toArray)) }
  refine wpAny_bind (wpAny_load (get?_update_seq (Heap.get?_push_size _ rfl) _) ?_)
  show wpAny _ _ (pure ((#[] : Array Value) ++ vs.toArray).toList) Q E _
  rw [show ((#[] : Array Value) ++ vs.toArray).toList = vs by simp]
  exact wpAny_pure h
theorem sorted_tupO {l : Addr} {vs : List Value} {ltv : Value → Value → Bool} {Q : Value → Shared → Prop} (O : Swo ltv) (hl : IsTup s.heap l vs.toArray) (hz : vs.length ≤ sizeLine)
    (hS : 2 ≤ vs.length → ∀ (h₁ : Heap) (a : Addr), h₁.get? a = some (seqObj "list" vs.toArray 0) → (∀ b o, s.heap.get? b = some o → b ≠ a ∧ h₁.get? b = some o) → SortableO prog w A.in1.in1 { s with heap := h₁ } a vs ltv)
    (h : ∀ out : List Value, Srtd ltv out → Stb ltv out vs → Q (.ref (s.heap.objs.size + 1)) { s with heap := sortedAll s.heap vs out.toArray }) :
    wpAny (model prog w) A (call (.builtin "sorted") [.ref l]) Q E s := by
  refine Calls.call_function_entry kind_sorted plain_sorted entry_sorted (args_sorted1 _) ?_
  unfold Builtin.«sorted»
  refine wpAny_bind (m := checkCount "sorted" 1 1 _) (wpAny_pure ?_)
  refine wpAny_bind (collect_tup hl ?_ hz)
  refine wpAny_bind (wpAny_newList ?_ hz)
  have hsz : ((s.heap.push (seqObj "list" #[] 0)).update s.heap.objs.size (Obj.mapSeq (· ++ vs.toArray))).objs.size = s.heap.objs.size + 1 := by
    rw [Heap.size_update, size_push']
  have hoL : (((s.heap.push (seqObj "list" #[] 0)).update s.heap.objs.size (Obj.mapSeq (· ++ vs.toArray))).push (seqObj "list" vs.toArray 0)).get? (s.heap.objs.size + 1) = some (seqObj "list" vs.toArray 0) := by
    rw [← hsz]; exact Heap.get?_push_size _ rfl
  have keep : ∀ b o, s.heap.get? b = some o → b ≠ s.heap.objs.size + 1 ∧ (((s.heap.push (seqObj "list" #[] 0)).update s.heap.objs.size (Obj.mapSeq (· ++ vs.toArray))).push (seqObj "list" vs.toArray 0)).get? b = some o := fun b o q => by
    have hlt : b < s.heap.objs.size := Heap.lt_size q
    refine ⟨Nat.ne_of_lt (Nat.lt_succ_of_lt hlt), Heap.get?_push_of_some _ ?_⟩
    rw [Heap.get?_update_ne _ _ _ _ (Nat.ne_of_lt hlt)]
    exact Heap.get?_push_of_some _ q
  show wpAny _ _ _ _ _ { s with heap := ((s.heap.push (seqObj "list" #[] 0)).update s.heap.objs.size (Obj.mapSeq (· ++ vs.toArray))).push (seqObj "list" vs.toArray 0) }
  rw [hsz]
  refine wpAny_bind (wpAny_holding (wpAny_call_entry slot_list_sort ⟨_, hoL, rfl⟩ entry_list_sort (list_sort_ord O hoL hz (fun h2 => hS h2 _ _ hoL keep) fun out hs hb => ⟨_, rfl, ?_⟩) (args_list_sort _)))
  exact wpAny_pure ⟨_, rfl, h out hs hb⟩
end
end SrtO
namespace Mn
open PySem PySem.Spec PyProof.Rows L2
/-! ### sorted(xs), a list or a tuple of ints -/
def rSortedA (K : PySem.W.Frag) : List V → Hp → VK → Prop := fun vs H Q => ∃ (a : Addr) (ns : List Int), vs = [V.ref a] ∧ (SqL K H a (ns.map V.int) ∨ SqT K H a (ns.map V.int)) ∧
  ∀ (ns' : List Int) (p : Addr), ns'.Perm ns → ns'.Pairwise (· ≤ ·) → H p = none → Q (.ref p) (upd H p (.lst (ns'.map V.int)))
theorem cr_sortedA {X : Cx} : CallR X (.builtin "sorted") (rSortedA X.K) := by
  intro pins s σ H vs us Q I r h
  obtain ⟨a, ns, rfl, hs, q⟩ := h
  rcases hs with hs | hs
  · exact cr_sortedI pins s σ H [V.ref a] us Q I r ⟨a, ns, rfl, hs, q⟩
  obtain ⟨its, rv, hl, hz⟩ := I.tuple hs
  rw [Vals.ref1 r]
  have hi := rv.ints
  refine SrtO.sorted_tupO SrtO.swo_int hl (by rw [← rv.length]; exact hz) (fun h2 h₁ a' _ _ => SrtO.ints_sortable hi h2) fun out h1 h2 => ?_
  obtain ⟨k1, k2, k3⟩ := SrtO.ints_out hi h1 h2
  obtain ⟨ep, he'⟩ := PyProof.Rows.sortedAll_at s.heap its out.toArray
  have hlen : ((out.map SrtO.iv).map V.int).length ≤ sizeLine := by
    rw [List.length_map, k2.length_eq]
    rw [List.length_map] at hz
    exact hz
  exact ⟨.ref _, upd H (s.heap.objs.size + 1) (.lst ((out.map SrtO.iv).map V.int)), I.laid (t' := s.toks) (fun _ _ => PyProof.Rows.sortedAll_old) (Nat.le_succ _) ⟨hlen, out, ep, vals_of_ints k1, he'⟩, rfl, q _ _ k2 k3 (I.hok.fresh (Nat.le_succ _))⟩
def fSortedA : MF := fun ms h Q => ∃ (m : M) (is : List Int), ms = [m] ∧ itemsM h m = some (is.map M.int) ∧ ∀ js : List Int, js.Perm is → js.Pairwise (· ≤ ·) → Q (.ref h.length) (h ++ [.lst (js.map M.int)])
theorem l_sortedA {X : Cx} : LsR X.K (rSortedA X.K) fSortedA := by
  intro f mh H ms vs Q' Q r rv q k
  obtain ⟨m, is, rfl, hx, q⟩ := q
  obtain ⟨v, rfl, r1⟩ := rv.one
  obtain ⟨a, us, rfl, s, rr⟩ := items_rd r r1 hx
  have := rr.ints
  subst this
  exact ⟨a, is, rfl, s.imp (fun s => .inl s) id, fun js p h1 h2 hp => k _ _ (QL.lst r (RVs.of_ints js) hp (q js h1 h2))⟩
end Mn
end
section
set_option maxHeartbeats 2000000
namespace Vn
open PySem PySem.Spec PyProof.Rows L2 Mn
/-! ### sorted, of a tuple too -/
def sortAV (x : PV) : Option PV := (itemsV x).bind fun xs => (intsV xs).map fun is => .lst ((isort is).map .int)
theorem n_sortedA {nw : Bool} : FnSim nw fSortedA (f1 sortAV) := FnSim.f1 fun {A h x mx v} f r e Q k => by
  obtain ⟨xs, h1, e⟩ := Option.bind_eq_some_iff.mp e
  obtain ⟨is, h2, rfl⟩ := Option.map_eq_some_iff.mp e
  obtain ⟨ms, e1, r1⟩ := items_of r h1
  rw [intsV_of h2] at r1
  have := r1.ints
  subst this
  refine ⟨_, is, rfl, e1, fun js hp hs => ?_⟩
  have : js = isort is := sorted_unique (hp.trans (isort_perm is).symm) hs (isort_sorted is)
  subst this
  exact k _ _ (out_lst (Rps.of_ints _) f)
theorem n_sortedB {nw : Bool} : FnSim nw fSortedA (f1 sortV) := FnSim.f1 fun {A h x mx v} f r e Q k => by
  obtain ⟨xs, h1, e⟩ := Option.bind_eq_some_iff.mp e
  obtain ⟨is, h2, rfl⟩ := Option.map_eq_some_iff.mp e
  obtain ⟨n, ms, rfl, e1, r1⟩ := ref_items r h1
  rw [intsV_of h2] at r1
  have := r1.ints
  subst this
  refine ⟨_, is, rfl, e1, fun js hp hs => ?_⟩
  have : js = isort is := sorted_unique (hp.trans (isort_perm is).symm) hs (isort_sorted is)
  subst this
  exact k _ _ (out_lst (Rps.of_ints _) f)
theorem sortAV_tup (l : List Int) : sortAV (.tup (l.map .int)) = some (.lst ((isort l).map .int)) := by
  show ((intsV (l.map .int)).map fun is => PV.lst ((isort is).map .int)) = _
  rw [intsV_map]; rfl
theorem sortAV_lst (l : List Int) : sortAV (.lst (l.map .int)) = some (.lst ((isort l).map .int)) := by
  show ((intsV (l.map .int)).map fun is => PV.lst ((isort is).map .int)) = _
  rw [intsV_map]; rfl
end Vn
end
section
set_option maxHeartbeats 2000000
namespace Mn
open PySem PySem.Spec PyProof.Rows L2
/-! ### x == () -/
def rEqN (K : PySem.W.Frag) : R2 := fun x y H Q => rEqA K x y H Q ∨ ∃ a b xs, x = .ref a ∧ y = .ref b ∧ SqT K H a xs ∧ SqT K H b [] ∧ Q (.bl xs.isEmpty) H
theorem op_eqN0 {X : Cx} (hu : X.A.units + 64 < cLine) : OpR X (compareOp .Eq) (fun x y H Q => ∃ a b xs, x = .ref a ∧ y = .ref b ∧ SqT X.K H a xs ∧ SqT X.K H b [] ∧ Q (.bl xs.isEmpty) H) := by
  intro pins s σ H x y v u Q I rx ry h
  obtain ⟨a, b, xs, rfl, rfl, s1, s2, q⟩ := h
  cases rx
  cases ry
  obtain ⟨its, r1, t1, z1⟩ := I.tuple s1
  obtain ⟨its2, r2, t2, z2⟩ := I.tuple s2
  cases r2
  refine SeqAt.eq_tupleAt (e := fun _ => true) t1 t2 (by omega) (fun j h1 h2 => absurd h2 (by simp)) ?_
  refine ⟨.bl xs.isEmpty, H, I, ?_, q⟩
  have hl := r1.length
  cases its with
  | nil =>
    have : xs = [] := List.eq_nil_of_length_eq_zero (by simpa using hl)
    subst this; rfl
  | cons w r =>
    cases xs with
    | nil => simp at hl
    | cons x xs => rfl
theorem op_eqN {X : Cx} (hu : X.A.units + 64 < cLine) : OpR X (compareOp .Eq) (rEqN X.K) := OpR.or (op_eqA hu) (op_eqN0 hu)
def mEqN : MR2 := fun x y h Q => match x, y with
  | .tup xs, .tup [] => Q (.bl xs.isEmpty) h
  | x, y => mEq x y h Q
theorem l_eqN {X : Cx} : L2R X.K (rEqN X.K) mEqN := by
  intro f mh H x y xv yv Q' Q r rx ry q k
  unfold mEqN at q
  split at q
  · rename_i xs
    obtain ⟨a, vs, rfl, s1, r1⟩ := rx
    obtain ⟨b, us, rfl, s2, r2⟩ := ry
    have e2 : us = [] := r2.nil_iff.mp rfl
    subst e2
    refine .inr ⟨a, b, vs, rfl, rfl, s1, s2, k _ _ (QL.same r (m := .bl xs.isEmpty) ?_ q)⟩
    have := r1.length
    cases xs <;> cases vs <;> first | rfl | simp at this
  · exact .inl (l_eq f mh H x y xv yv Q' Q r rx ry q k)
end Mn
end
section
set_option maxHeartbeats 2000000
namespace Vn
open PySem PySem.Spec PyProof.Rows L2 Mn
/-! ### x == () -/
def vEqN (x y : PV) : Option PV := match x, y with
  | .tup xs, .tup [] => some (.bl xs.isEmpty)
  | x, y => vEq x y
theorem o_eqN {nw : Bool} : OpSim nw mEqN vEqN := by
  intro A h x y mx my v f rx ry e Q k
  unfold vEqN at e
  split at e
  · cases e
    obtain ⟨ms, rfl, r1⟩ := rx
    obtain ⟨ns, rfl, r2⟩ := ry
    have e2 : ns = [] := r2
    subst e2
    show Q (.bl ms.isEmpty) h
    refine k _ _ (out_sc ?_ fun n e => by cases e)
    have := r1.length
    rename_i xs
    cases xs <;> cases ms <;> first | rfl | simp at this
  · rename_i hne
    have q := o_eq (nw := nw) f rx ry e Q k
    unfold mEqN
    split
    · rename_i ms
      exfalso
      cases x with
      | tup xs =>
        cases y with
        | tup ys =>
          cases ys with
          | nil => exact hne _ rfl rfl
          | cons y ys =>
            obtain ⟨ns, e1, ry⟩ := ry
            cases e1
            obtain ⟨m, r, e2, _⟩ := ry
            cases e2
        | opq m => simp [vEq, eqD, pdV] at e
        | _ => simp [RpT, Rp] at ry
      | opq m => cases y <;> simp [vEq, eqD, pdV] at e
      | _ => simp [RpT, Rp] at rx
    · exact q
theorem e_vEqN_nil : vEqN (.tup []) (.tup []) = some (.bl true) := eq_of_heq HEq.rfl
theorem e_vEqN_cons (x : PV) (xs : List PV) : vEqN (.tup (x :: xs)) (.tup []) = some (.bl false) := eq_of_heq HEq.rfl
theorem e_vEqN (xs : List PV) : vEqN (.tup xs) (.tup []) = some (.bl xs.isEmpty) := eq_of_heq HEq.rfl
end Vn
end
section
set_option maxHeartbeats 1000000
namespace Vn
open PySem PySem.Spec PyProof.Rows L2 Mn

/-! ### dead names are forgotten -/
theorem RSt.forget {Z : Bs} {A0 : Nat → Prop} {own : List Nat} {ow : Nat → Option Nat} {s : VS} {sm : MS} {h : MH} (r : RSt Z A0 own ow s sm h) (i : Nat) : RSt Z A0 own ow (s.set i none) sm h where
  len := by simp [r.len]
  frz := fun j pv hj e => by
    by_cases hji : i = j
    · subst hji
      have hl : i < s.length := by have := (List.getElem?_eq_some_iff.mp e).1; simpa using this
      rw [List.getElem?_set_self hl] at e
      cases e
    · rw [List.getElem?_set_ne hji] at e
      exact r.frz j pv hj e
  ows := fun j pv hj e => by
    by_cases hji : i = j
    · subst hji
      have hl : i < s.length := by have := (List.getElem?_eq_some_iff.mp e).1; simpa using this
      rw [List.getElem?_set_self hl] at e
      cases e
    · rw [List.getElem?_set_ne hji] at e
      exact r.ows j pv hj e
  ex := r.ex
  inj := r.inj
  fr := r.fr
  tb := r.tb
  za := r.za
theorem RSt.forgets {Z : Bs} {A0 : Nat → Prop} {own : List Nat} {ow : Nat → Option Nat} {s : VS} {sm : MS} {h : MH} (r : RSt Z A0 own ow s sm h) : ∀ ks : List Nat, RSt Z A0 own ow (wipeV s ks) sm h
  | [] => r
  | k :: ks => (RSt.forgets r ks).forget k
def vKill (ks : List Nat) (v : VSt) : VSt := fun s => match v s with
  | .nx s' => .nx (wipeV s' ks)
  | r => r
def vKillC (ks : List Nat) (v : VSt) : VSt := fun s => match v s with
  | .ct s' => .ct (wipeV s' ks)
  | r => r
section
variable {Z : Bs} {own : List Nat} {X : SX}
theorem v_kill {ks : List Nat} {w : MTS} {v : VSt} (hk : ks.all (fun k => !X.nx.contains k) = true) (a : SSim Z own X w v) : SSim Z own X w (vKill ks v) := by
  intro A0 ow s sm h r nb D k1 k2 k3 k4 k5
  have nb' : v s ≠ .bad := fun e => nb (by unfold vKill; rw [e])
  refine a r nb' D (fun s' ow' sm' h' e p => ?_) (fun pv s' m ow' sm' h' e p q => ?_) (fun s' ow' sm' h' e p => ?_) (fun s' ow' sm' h' e p => ?_) (fun pv s' m ow' sm' h' e p q => ?_)
  · exact k1 (wipeV s' ks) ow' sm' h' (by unfold vKill; rw [e]) ⟨p.st.forgets ks, p.fr, p.kp⟩
  · exact k2 pv s' m ow' sm' h' (by unfold vKill; rw [e]) p q
  · exact k3 s' ow' sm' h' (by unfold vKill; rw [e]) p
  · exact k4 s' ow' sm' h' (by unfold vKill; rw [e]) p
  · exact k5 pv s' m ow' sm' h' (by unfold vKill; rw [e]) p q
theorem v_killc {ks : List Nat} {w : MTS} {v : VSt} (hk : ks.all (fun k => !X.ct.contains k) = true) (a : SSim Z own X w v) : SSim Z own X w (vKillC ks v) := by
  intro A0 ow s sm h r nb D k1 k2 k3 k4 k5
  have nb' : v s ≠ .bad := fun e => nb (by unfold vKillC; rw [e])
  refine a r nb' D (fun s' ow' sm' h' e p => ?_) (fun pv s' m ow' sm' h' e p q => ?_) (fun s' ow' sm' h' e p => ?_) (fun s' ow' sm' h' e p => ?_) (fun pv s' m ow' sm' h' e p q => ?_)
  · exact k1 s' ow' sm' h' (by unfold vKillC; rw [e]) p
  · exact k2 pv s' m ow' sm' h' (by unfold vKillC; rw [e]) p q
  · exact k3 s' ow' sm' h' (by unfold vKillC; rw [e]) p
  · exact k4 (wipeV s' ks) ow' sm' h' (by unfold vKillC; rw [e]) ⟨p.st.forgets ks, p.fr, p.kp⟩
  · exact k5 pv s' m ow' sm' h' (by unfold vKillC; rw [e]) p q
end
/-! ### equations -/
def kilK (ks : List Nat) (r : SR) : SR := match r with
  | .nx s' => .nx (wipeV s' ks)
  | r => r
def kilC (ks : List Nat) (r : SR) : SR := match r with
  | .ct s' => .ct (wipeV s' ks)
  | r => r
theorem e_vKill (ks : List Nat) (v : VSt) (s : VS) : vKill ks v s = kilK ks (v s) := eq_of_heq HEq.rfl
theorem e_vKillC (ks : List Nat) (v : VSt) (s : VS) : vKillC ks v s = kilC ks (v s) := eq_of_heq HEq.rfl
theorem e_kilK_nx (ks : List Nat) (s : VS) : kilK ks (.nx s) = .nx (wipeV s ks) := eq_of_heq HEq.rfl
theorem e_kilK_rt (ks : List Nat) (v : PV) (s : VS) : kilK ks (.rt v s) = .rt v s := eq_of_heq HEq.rfl
theorem e_kilK_br (ks : List Nat) (s : VS) : kilK ks (.br s) = .br s := eq_of_heq HEq.rfl
theorem e_kilK_ct (ks : List Nat) (s : VS) : kilK ks (.ct s) = .ct s := eq_of_heq HEq.rfl
theorem e_kilK_xc (ks : List Nat) (v : PV) (s : VS) : kilK ks (.xc v s) = .xc v s := eq_of_heq HEq.rfl
theorem e_kilC_ct (ks : List Nat) (s : VS) : kilC ks (.ct s) = .ct (wipeV s ks) := eq_of_heq HEq.rfl
theorem e_wipeV_nil (s : VS) : wipeV s [] = s := eq_of_heq HEq.rfl
theorem e_wipeV_cons (s : VS) (k : Nat) (ks : List Nat) : wipeV s (k :: ks) = (wipeV s ks).set k none := eq_of_heq HEq.rfl
theorem e_backV_cons (s0 s : VS) (v : Nat) (vs : List Nat) : backV s0 s (v :: vs) = (backV s0 s vs).set v (s0[v]?.join) := eq_of_heq HEq.rfl
theorem e_backV_nil (s0 s : VS) : backV s0 s [] = s := eq_of_heq HEq.rfl
/-! loops, turn by turn -/
def loK2 (r : SR) (g : VG) (b : VSt) (xs : List PV) : SR := match r with
  | .nx s2 => vLoop g b xs s2
  | .ct s2 => vLoop g b xs s2
  | .br s2 => .nx s2
  | o => o
def loK (o : Option VS) (g : VG) (b : VSt) (xs : List PV) : SR := match o with
  | some s1 => loK2 (b s1) g b xs
  | none => .bad
theorem e_loop_nil (g : VG) (b : VSt) (s : VS) : vLoop g b [] s = .nx s := eq_of_heq HEq.rfl
theorem e_loop_cons (g : VG) (b : VSt) (x : PV) (xs : List PV) (s : VS) : vLoop g b (x :: xs) s = loK (g x s) g b xs := by
  simp only [vLoop, loK]
  cases g x s with
  | none => rfl
  | some s1 => (simp only [loK2]) <;> (cases b s1 <;> rfl)
theorem e_loK (g : VG) (b : VSt) (xs : List PV) (s : VS) : loK (some s) g b xs = loK2 (b s) g b xs := eq_of_heq HEq.rfl
theorem e_loK_nx (g : VG) (b : VSt) (xs : List PV) (s : VS) : loK2 (.nx s) g b xs = vLoop g b xs s := eq_of_heq HEq.rfl
theorem e_loK_ct (g : VG) (b : VSt) (xs : List PV) (s : VS) : loK2 (.ct s) g b xs = vLoop g b xs s := eq_of_heq HEq.rfl
theorem e_loK_br (g : VG) (b : VSt) (xs : List PV) (s : VS) : loK2 (.br s) g b xs = .nx s := eq_of_heq HEq.rfl
theorem e_loK_rt (g : VG) (b : VSt) (xs : List PV) (v : PV) (s : VS) : loK2 (.rt v s) g b xs = .rt v s := eq_of_heq HEq.rfl
theorem e_loK_xc (g : VG) (b : VSt) (xs : List PV) (v : PV) (s : VS) : loK2 (.xc v s) g b xs = .xc v s := eq_of_heq HEq.rfl
theorem rngV_zero (lo : Int) : rngV lo 0 = [] := rfl
theorem rngV_succ (lo : Int) (n : Nat) : rngV lo (n + 1) = .int lo :: rngV (lo + 1) n := by
  unfold rngV
  rw [List.range_succ_eq_map, List.map_cons, List.map_map]
  refine congr (congrArg _ (by simp)) (List.map_congr_left fun i _ => ?_)
  simp only [Function.comp]
  congr 1
  omega
/-- while loops -/
def whK2 (r : SR) (c : VT) (b : VSt) (n : Nat) : SR := match r with
  | .nx s2 => vIter c b n s2
  | .ct s2 => vIter c b n s2
  | .br s2 => .nx s2
  | o => o
theorem vIter_succ (c : VT) (b : VSt) (n : Nat) (s : VS) : vIter c b (n + 1) s = (c s).st fun t s1 => if t = true then whK2 (b s1) c b n else .nx s1 := eq_of_heq HEq.rfl
theorem e_whK_nx (c : VT) (b : VSt) (n : Nat) (s : VS) : whK2 (.nx s) c b n = vIter c b n s := eq_of_heq HEq.rfl
theorem e_whK_ct (c : VT) (b : VSt) (n : Nat) (s : VS) : whK2 (.ct s) c b n = vIter c b n s := eq_of_heq HEq.rfl
theorem e_whK_br (c : VT) (b : VSt) (n : Nat) (s : VS) : whK2 (.br s) c b n = .nx s := eq_of_heq HEq.rfl
theorem e_whK_rt (c : VT) (b : VSt) (n : Nat) (v : PV) (s : VS) : whK2 (.rt v s) c b n = .rt v s := eq_of_heq HEq.rfl
theorem e_whK_xc (c : VT) (b : VSt) (n : Nat) (v : PV) (s : VS) : whK2 (.xc v s) c b n = .xc v s := eq_of_heq HEq.rfl
theorem while_nx {c : VT} {b : VSt} {s s' : VS} (n : Nat) (h : vIter c b n s = .nx s') : vWhile c b s = .nx s' := by
  rw [vWhile_eq n (by rw [h]; exact fun e => by cases e), h]
/-! told deeds -/
noncomputable def lamK (vt : M → TR → FR) (r : ER PV) (s : VS) : ER PV := vLam [] vt (fun _ => r) s
theorem e_vLam (own : List Nat) (vt : M → TR → FR) (body : VE) (s : VS) : vLam own vt body s = lamK vt (body (wipeV s own)) s := by
  unfold lamK vLam
  rfl
theorem e_lamK_ok {vt : M → TR → FR} {x v : PV} {s' s : VS} (h : ∀ lam, vt lam (.ok x) = .ok v []) : lamK vt (.ok x s') s = .ok v s := by
  unfold lamK; exact vLam_eq fun lam => h lam
theorem e_lamK_xc {vt : M → TR → FR} {e v : PV} {s' s : VS} (h : ∀ lam, vt lam (.xc e) = .ok v []) : lamK vt (.xc e s') s = .ok v s := by
  unfold lamK; exact vLam_eq fun lam => h lam
/-! branches that are known -/
theorem ifp {α : Sort _} {c : Prop} [Decidable c] {a b : α} (h : c) : (if c then a else b) = a := if_pos h
theorem ifn {α : Sort _} {c : Prop} [Decidable c] {a b : α} (h : ¬ c) : (if c then a else b) = b := if_neg h
end Vn
end
section
set_option maxHeartbeats 1000000
namespace Lw
open PySem PySem.Spec PyProof.Rows L2 Mn
def lamDefs : List Str := ["_law_right"]
def wDeed (lam : M) (tl : MH → KM → KM → Prop) : MTE := fun sm h Q E => sm[0]? = some (some lam) ∧ tl h Q E
def top (i : Nat) : Stmt := PySem.Challenge.pw_stonewalk_k08_rows_checked.main.body.getD i (.Pass ⟨0, 0, 0, 0⟩)
/-! ### names, tables, facts -/
def xcs : List Str := ["InvalidPlace", "InvalidDistance", "InvalidBag", "InvalidRow", "InvalidNumber", "NoStone", "TooManyStones", "OutOfBounds"]
def xcat : Str → Bool := fun _ => true
def xtI (C : Str) (m : M) : Option Bool := match m with
  | .glo x => if C ∈ xcs ∧ x ∈ (["InvalidBag", "InvalidDistance", "InvalidNumber", "InvalidPlace", "InvalidRow", "NoStone", "OutOfBounds", "StoneError", "TooManyStones", "WalkError"] : List Str) then some (decide ((C, x) ∈ ([("InvalidPlace", "InvalidPlace"), ("InvalidPlace", "StoneError"), ("InvalidDistance", "InvalidDistance"), ("InvalidDistance", "StoneError"), ("InvalidBag", "InvalidBag"), ("InvalidBag", "StoneError"), ("InvalidRow", "InvalidRow"), ("InvalidRow", "StoneError"), ("InvalidNumber", "InvalidNumber"), ("InvalidNumber", "StoneError"), ("NoStone", "NoStone"), ("NoStone", "WalkError"), ("TooManyStones", "TooManyStones"), ("TooManyStones", "WalkError"), ("OutOfBounds", "OutOfBounds"), ("OutOfBounds", "WalkError")] : List (Str × Str)))) else none
  | .ty x => if C ∈ xcs ∧ x ∈ (["RuntimeError", "ValueError"] : List String) then some (decide ((C, x) ∈ ([("InvalidPlace", "ValueError"), ("InvalidDistance", "ValueError"), ("InvalidBag", "ValueError"), ("InvalidRow", "ValueError"), ("InvalidNumber", "ValueError"), ("NoStone", "RuntimeError"), ("TooManyStones", "RuntimeError"), ("OutOfBounds", "RuntimeError")] : List (Str × String)))) else none
  | _ => none
def w_is_integer_0a_0 : MTS :=
    wRet (wCon (.bl false))
def w_is_integer_1 : MTS :=
    wRet (wAndV (wOrV (wOp (mIs) (wVar 1) (wCon .non)) (wOp (mGe) (wVar 0) (wVar 1))) (wOrV (wOp (mIs) (wVar 2) (wCon .non)) (wOp (mLe) (wVar 0) (wVar 2))))
def w_is_integer : MTS :=
    wSeq (wIf (wOrT (wNotT (wTst (wFn (fIsi xt0) (wCons (wVar 0) (wCons (wCon (.ty "int")) (wNil)))))) (wTst (wFn (fIsi xt0) (wCons (wVar 0) (wCons (wCon (.ty "bool")) (wNil))))))
     (w_is_integer_0a_0)
     (wNext))
    (w_is_integer_1)
def r_is_integer : MSp := runM ["value", "least", "most"] 3 (w_is_integer)
def w_check_row_0a_0 : MTS :=
    wRaise "InvalidRow" "position" [.non] wNil
def w_check_row_1a0a_0 : MTS :=
    wRaise "InvalidRow" "position" [] (wCons (wVar 1) (wNil))
def w_check_row_1a_0 : MTS :=
    wIf (wNotT (wTst (wCall (fun ms => r_is_integer ((fun ms ns => pick [0, 1, 2] (ms ++ ([.non, .non] ++ ns))) ms [])) 1 (wCons (wVar 2) (wNil)))))
      (w_check_row_1a0a_0)
      (wNext)
def w_check_row_2a_0 : MTS :=
    wRaise "InvalidRow" "position" [] (wCons (wCon (.str "last")) (wNil))
def w_check_row_2 : MTS :=
    wIf (wTst (wOp (mNe) (wOp mIx (wVar 0) (wUn mNeg (wCon (.int 1)))) (wCon (.int 1))))
     (w_check_row_2a_0)
     (wNext)
def w_check_row_1 : MTS :=
    wSeq (wFor (wEnum (wCons (wVar 0) (wNil))) (gT 2 (gsCons (gN 1) (gsCons (gN 2) (gsNil))))
     (w_check_row_1a_0))
    (w_check_row_2)
def w_check_row : MTS :=
    wSeq (wIf (wOrT (wNotT (wTst (wFn (fIsi xt0) (wCons (wVar 0) (wCons (wCon (.ty "tuple")) (wNil)))))) (wNotT (wTst (wChain (mLe) (mLe) (wCon (.int 1)) (wFn fLen (wCons (wVar 0) (wNil))) (wOp mAdd (wCon (.int 40)) (wCon (.int 1)))))))
     (w_check_row_0a_0)
     (wNext))
    (w_check_row_1)
def r_check_row : MSp := runM ["value", "index", "entry"] 1 (w_check_row)
def w_is_row_0a_0 : MTS :=
    wRet (wCon (.bl false))
def w_is_row_1 : MTS :=
    wRet (wAndV (wFn fAll (wCons (wComp (wSeqI (wVar 0)) (.one 1) (wYes) (wCall (fun ms => r_is_integer ((fun ms ns => pick [0, 1, 2] (ms ++ ([.non, .non] ++ ns))) ms [])) 1 (wCons (wVar 1) (wNil))) (List.map (fun p => p.2) ([("entry", 1)] : List (Str × Nat)))) (wNil))) (wOp (mEq) (wOp mIx (wVar 0) (wUn mNeg (wCon (.int 1)))) (wCon (.int 1))))
def w_is_row : MTS :=
    wSeq (wIf (wOrT (wNotT (wTst (wFn (fIsi xt0) (wCons (wVar 0) (wCons (wCon (.ty "tuple")) (wNil)))))) (wNotT (wTst (wChain (mLe) (mLe) (wCon (.int 1)) (wFn fLen (wCons (wVar 0) (wNil))) (wOp mAdd (wCon (.int 40)) (wCon (.int 1)))))))
     (w_is_row_0a_0)
     (wNext))
    (w_is_row_1)
def r_is_row : MSp := runM ["value", "entry"] 1 (w_is_row)
def w_size_of_1 : MTS :=
    wRet (wOp mSubA (wFn fLen (wCons (wVar 0) (wNil))) (wCon (.int 1)))
def w_size_of : MTS :=
    wSeq (wDrop (wCall (fun ms => r_check_row ((fun ms ns => pick [0] (ms ++ ns)) ms [])) 1 (wCons (wVar 0) (wNil))))
    (w_size_of_1)
def r_size_of : MSp := runM ["row"] 1 (w_size_of)
def w_height_of_1 : MTS :=
    wRet (wOp mIx (wVar 0) (wCon (.int 0)))
def w_height_of : MTS :=
    wSeq (wDrop (wCall (fun ms => r_check_row ((fun ms ns => pick [0] (ms ++ ns)) ms [])) 1 (wCons (wVar 0) (wNil))))
    (w_height_of_1)
def r_height_of : MSp := runM ["row"] 1 (w_height_of)
def w__law_cell_3a1a_0 : MTS :=
    wAsg (wOp mFdiv (wVar 4) (wCon (.int 306783379))) (gN 4)
def w__law_cell_3a2a_0 : MTS :=
    wRet (wOp mMod (wVar 4) (wCon (.int 306783379)))
def w__law_cell_3a_2 : MTS :=
    wIf (wTst (wOp (mGt) (wVar 4) (wCon (.int 0))))
      (w__law_cell_3a2a_0)
      (wNext)
def w__law_cell_3a_1 : MTS :=
    wSeq (wFor (wRng1 (wCons (wOp mFdiv (wVar 2) (wFn fLen (wCons (wVar 0) (wNil)))) (wNil))) (gN 5)
      (w__law_cell_3a1a_0))
    (w__law_cell_3a_2)
def w__law_cell_3a_0 : MTS :=
    wSeq (wAsg (wOp mIx (wVar 0) (wOp mMod (wVar 2) (wFn fLen (wCons (wVar 0) (wNil))))) (gN 4))
    (w__law_cell_3a_1)
def w__law_cell_4a_0 : MTS :=
    wAsg (wOp mAdd (wVar 3) (wOp mMul (wOp mMod (wOp mIx (wVar 0) (wOp mMod (wVar 2) (wFn fLen (wCons (wVar 0) (wNil))))) (wCon (.int 2147483629))) (wOp mAdd (wCon (.int 1)) (wOp mFdiv (wVar 2) (wFn fLen (wCons (wVar 0) (wNil))))))) (gN 3)
def w__law_cell_5 : MTS :=
    wRet (wOp mFdiv (wOp mMod (wOp mPow (wOp mMod (wVar 3) (wCon (.int 2147483647))) (wCon (.int 5))) (wCon (.int 2147483647))) (wCon (.int 7)))
def w__law_cell_4 : MTS :=
    wSeq (wIf (wTst (wOp (mGt) (wFn fLen (wCons (wVar 0) (wNil))) (wCon (.int 0))))
     (w__law_cell_4a_0)
     (wNext))
    (w__law_cell_5)
def w__law_cell_3 : MTS :=
    wSeq (wIf (wAndT (wTst (wOp (mGt) (wFn fLen (wCons (wVar 0) (wNil))) (wCon (.int 0)))) (wAndT (wTst (wOp (mGe) (wOp mIx (wVar 0) (wOp mMod (wVar 2) (wFn fLen (wCons (wVar 0) (wNil))))) (wOp mPow (wCon (.int 10)) (wCon (.int 18))))) (wTst (wOp (mLt) (wOp mFdiv (wVar 2) (wFn fLen (wCons (wVar 0) (wNil)))) (wCon (.int 60))))))
     (w__law_cell_3a_0)
     (wNext))
    (w__law_cell_4)
def w__law_cell_2 : MTS :=
    wSeq (wAsg (wOp mAdd (wOp mMul (wOp mMul (wCon (.int 31)) (wVar 2)) (wVar 2)) (wOp mMul (wCon (.int 7919)) (wVar 2))) (gN 3))
    (w__law_cell_3)
def w__law_cell_1 : MTS :=
    wSeq (wAsg (wOp mIx (wVar 1) (wCon (.int 0))) (gN 2))
    (w__law_cell_2)
def w__law_cell : MTS :=
    wSeq (wAsgSub (wOp mAdd (wOp mIx (wVar 1) (wCon (.int 0))) (wCon (.int 1))) (wVar 1) (wCon (.int 0)))
    (w__law_cell_1)
def r__law_cell : MSp := runM ["cells", "spot", "k", "base", "own", "turn"] 2 (w__law_cell)
def w__law_told_1a_0 (lam : M) (tl : MH → KM → KM → Prop) : MTS :=
    wDrop (wBm kAppend (wVar 2) (wCons (wDeed lam tl) (wNil)))
def w__law_told_1b_0 (lam : M) (tl : MH → KM → KM → Prop) : MTS :=
    wAsg (wVar 3) (gN 1)
def w__law_told_2a_0 (lam : M) (tl : MH → KM → KM → Prop) : MTS :=
    wRet (wVar 2)
def w__law_told_10a_0 (lam : M) (tl : MH → KM → KM → Prop) : MTS :=
    wRet (wTup (wCons (wCon (.str "other")) (wNil)))
def w__law_told_11a_0 (lam : M) (tl : MH → KM → KM → Prop) : MTS :=
    wRet (wTup (wCons (wOp mIx (wLst (wCons (wCon (.str "bag")) (wCons (wCon (.str "row")) (wNil)))) (wOp mSubA (wVar 6) (wCon (.int 2)))) (wCons (wXf xcs "position" (wVar 1)) (wNil))))
def w__law_told_12a_0 (lam : M) (tl : MH → KM → KM → Prop) : MTS :=
    wRet (wTup (wCons (wCon (.str "many")) (wCons (wXf xcs "limit" (wVar 1)) (wNil))))
def w__law_told_14 (lam : M) (tl : MH → KM → KM → Prop) : MTS :=
    wRet (wTup (wCons (wOp mIx (wVar 7) (wVar 6)) (wCons (wXf xcs "value" (wVar 1)) (wNil))))
def w__law_told_13 (lam : M) (tl : MH → KM → KM → Prop) : MTS :=
    wSeq (wAsg (wLst (wCons (wCon (.str "place")) (wCons (wCon (.str "distance")) (wCons (wCon (.str "")) (wCons (wCon (.str "")) (wCons (wCon (.str "number")) (wCons (wCon (.str "stone")) (wCons (wCon (.str "")) (wCons (wCon (.str "bounds")) (wNil)))))))))) (gN 7))
    (w__law_told_14 lam tl)
def w__law_told_12 (lam : M) (tl : MH → KM → KM → Prop) : MTS :=
    wSeq (wIf (wTst (wOp (mEq) (wVar 6) (wCon (.int 6))))
     (w__law_told_12a_0 lam tl)
     (wNext))
    (w__law_told_13 lam tl)
def w__law_told_11 (lam : M) (tl : MH → KM → KM → Prop) : MTS :=
    wSeq (wIf (wOrT (wTst (wOp (mEq) (wVar 6) (wCon (.int 2)))) (wTst (wOp (mEq) (wVar 6) (wCon (.int 3)))))
     (w__law_told_11a_0 lam tl)
     (wNext))
    (w__law_told_12 lam tl)
def w__law_told_10 (lam : M) (tl : MH → KM → KM → Prop) : MTS :=
    wSeq (wIf (wOrT (wTst (wOp (mEq) (wVar 6) (wCon (.int 9)))) (wTst (wOp (mNe) (wVar 5) (wLst (wCons (wOp (mLt) (wVar 6) (wCon (.int 5))) (wCons (wOp (mLt) (wVar 6) (wCon (.int 5))) (wCons (wOp (mGt) (wVar 6) (wCon (.int 4))) (wCons (wOp (mGt) (wVar 6) (wCon (.int 4))) (wNil)))))))))
     (w__law_told_10a_0 lam tl)
     (wNext))
    (w__law_told_11 lam tl)
def w__law_told_9 (lam : M) (tl : MH → KM → KM → Prop) : MTS :=
    wSeq (wAsg (wIfE (wTst (wOp (mEq) (wBm kCount (wVar 4) (wCons (wCon (.bl true)) (wNil))) (wCon (.int 1)))) (wBm kIndex (wVar 4) (wCons (wCon (.bl true)) (wNil))) (wCon (.int 9))) (gN 6))
    (w__law_told_10 lam tl)
def w__law_told_8 (lam : M) (tl : MH → KM → KM → Prop) : MTS :=
    wSeq (wAsg (wOp mAdd (wVar 5) (wLst (wCons (wFn (fIsi xtI) (wCons (wVar 1) (wCons (wCon (.glo "WalkError")) (wNil)))) (wCons (wFn (fIsi xtI) (wCons (wVar 1) (wCons (wCon (.ty "RuntimeError")) (wNil)))) (wNil))))) (gN 5))
    (w__law_told_9 lam tl)
def w__law_told_7 (lam : M) (tl : MH → KM → KM → Prop) : MTS :=
    wSeq (wAsg (wLst (wCons (wFn (fIsi xtI) (wCons (wVar 1) (wCons (wCon (.glo "StoneError")) (wNil)))) (wCons (wFn (fIsi xtI) (wCons (wVar 1) (wCons (wCon (.ty "ValueError")) (wNil)))) (wNil)))) (gN 5))
    (w__law_told_8 lam tl)
def w__law_told_6 (lam : M) (tl : MH → KM → KM → Prop) : MTS :=
    wSeq (wAsg (wOp mAdd (wVar 4) (wLst (wCons (wFn (fIsi xtI) (wCons (wVar 1) (wCons (wCon (.glo "TooManyStones")) (wNil)))) (wCons (wFn (fIsi xtI) (wCons (wVar 1) (wCons (wCon (.glo "OutOfBounds")) (wNil)))) (wNil))))) (gN 4))
    (w__law_told_7 lam tl)
def w__law_told_5 (lam : M) (tl : MH → KM → KM → Prop) : MTS :=
    wSeq (wAsg (wOp mAdd (wVar 4) (wLst (wCons (wFn (fIsi xtI) (wCons (wVar 1) (wCons (wCon (.glo "InvalidNumber")) (wNil)))) (wCons (wFn (fIsi xtI) (wCons (wVar 1) (wCons (wCon (.glo "NoStone")) (wNil)))) (wNil))))) (gN 4))
    (w__law_told_6 lam tl)
def w__law_told_4 (lam : M) (tl : MH → KM → KM → Prop) : MTS :=
    wSeq (wAsg (wOp mAdd (wVar 4) (wLst (wCons (wFn (fIsi xtI) (wCons (wVar 1) (wCons (wCon (.glo "InvalidBag")) (wNil)))) (wCons (wFn (fIsi xtI) (wCons (wVar 1) (wCons (wCon (.glo "InvalidRow")) (wNil)))) (wNil))))) (gN 4))
    (w__law_told_5 lam tl)
def w__law_told_3 (lam : M) (tl : MH → KM → KM → Prop) : MTS :=
    wSeq (wAsg (wLst (wCons (wFn (fIsi xtI) (wCons (wVar 1) (wCons (wCon (.glo "InvalidPlace")) (wNil)))) (wCons (wFn (fIsi xtI) (wCons (wVar 1) (wCons (wCon (.glo "InvalidDistance")) (wNil)))) (wNil)))) (gN 4))
    (w__law_told_4 lam tl)
def w__law_told_2 (lam : M) (tl : MH → KM → KM → Prop) : MTS :=
    wSeq (wIf (wTst (wOp (mIs) (wVar 1) (wCon .non)))
     (w__law_told_2a_0 lam tl)
     (wNext))
    (w__law_told_3 lam tl)
def w__law_told_1 (lam : M) (tl : MH → KM → KM → Prop) : MTS :=
    wSeq (wTryT xcs xcat 3 (w__law_told_1a_0 lam tl) (w__law_told_1b_0 lam tl))
    (w__law_told_2 lam tl)
def w__law_told (lam : M) (tl : MH → KM → KM → Prop) : MTS :=
    wSeq (wPar 1 2 (wCons (wCon .non) (wCons (wLst (wNil)) (wNil))))
    (w__law_told_1 lam tl)
def r__law_told : TSp := fun tl h Q => ∀ lam, w__law_told lam tl (endD Q) (startM ["deed", "error", "found", "e", "kinds", "bases", "at", "words"] [lam]) h
def w__law_same : MTS :=
    wRet (wOp (mEq) (wFn fRep (wCons (wVar 0) (wNil))) (wFn fRep (wCons (wOp mMul (wLst (wCons (wVar 1) (wNil))) (wFn fLen (wCons (wVar 0) (wNil)))) (wNil))))
def r__law_same : MSp := runM ["found", "due"] 2 (w__law_same)
def w__law_any_1a_1 : MTS :=
    wDrop (wBm kAppend (wVar 3) (wCons (wOp mIx (wLst (wCons (wOp mSubA (wOp mMod (wVar 5) (wCon (.int 9))) (wCon (.int 4))) (wCons (wCon (.int 0)) (wCons (wOp mSubA (wOp mMul (wOp mMul (wVar 5) (wVar 5)) (wVar 5)) (wOp mPow (wCon (.int 10)) (wCon (.int 20)))) (wCons (wOp mSubA (wCon (.int 0)) (wVar 5)) (wNil)))))) (wOp mMod (wOp mFdiv (wVar 5) (wCon (.int 9))) (wCon (.int 4)))) (wNil)))
def w__law_any_1a_0 : MTS :=
    wSeq (wAsg (wCall (fun ms => r__law_cell ((fun ms ns => pick [0, 1] (ms ++ ns)) ms [])) 2 (wCons (wVar 0) (wCons (wVar 1) (wNil)))) (gN 5))
    (w__law_any_1a_1)
def w__law_any_2 : MTS :=
    wRet (wFn fTuple (wCons (wOp mAdd (wVar 3) (wLst (wCons (wCon (.int 1)) (wNil)))) (wNil)))
def w__law_any_1 : MTS :=
    wSeq (wFor (wRng1 (wCons (wOp mIx (wLst (wCons (wOp mMod (wOp mFdiv (wVar 2) (wCon (.int 3))) (wCon (.int 5))) (wCons (wOp mMod (wOp mFdiv (wVar 2) (wCon (.int 3))) (wCon (.int 41))) (wCons (wCon (.int 40)) (wNil))))) (wOp mMod (wVar 2) (wCon (.int 3)))) (wNil))) (gN 4)
     (w__law_any_1a_0))
    (w__law_any_2)
def w__law_any : MTS :=
    wSeq (wPar 2 3 (wCons (wCall (fun ms => r__law_cell ((fun ms ns => pick [0, 1] (ms ++ ns)) ms [])) 2 (wCons (wVar 0) (wCons (wVar 1) (wNil)))) (wCons (wLst (wNil)) (wNil))))
    (w__law_any_1)
def r__law_any : MSp := runM ["cells", "spot", "n", "found", "k", "m"] 2 (w__law_any)
def w__law_wrong_0a_0 : MTS :=
    wRet (wLst (wCons (wCon .non) (wNil)))
def w__law_wrong_1a0a_0 : MTS :=
    wRet (wLst (wCons (wVar 1) (wNil)))
def w__law_wrong_1a_0 : MTS :=
    wIf (wOrT (wNotT (wTst (wFn (fIsi xt0) (wCons (wOp mIx (wVar 0) (wVar 1)) (wCons (wCon (.ty "int")) (wNil)))))) (wTst (wFn (fIsi xt0) (wCons (wOp mIx (wVar 0) (wVar 1)) (wCons (wCon (.ty "bool")) (wNil))))))
      (w__law_wrong_1a0a_0)
      (wNext)
def w__law_wrong_2 : MTS :=
    wRet (wIfE (wTst (wOp (mEq) (wOp mIx (wVar 0) (wOp mSubA (wFn fLen (wCons (wVar 0) (wNil))) (wCon (.int 1)))) (wCon (.int 1)))) (wLst (wNil)) (wLst (wCons (wCon (.str "last")) (wNil))))
def w__law_wrong_1 : MTS :=
    wSeq (wFor (wRng1 (wCons (wFn fLen (wCons (wVar 0) (wNil))) (wNil))) (gN 1)
     (w__law_wrong_1a_0))
    (w__law_wrong_2)
def w__law_wrong : MTS :=
    wSeq (wIf (wOrT (wNotT (wTst (wFn (fIsi xt0) (wCons (wVar 0) (wCons (wCon (.ty "tuple")) (wNil)))))) (wOrT (wTst (wOp (mLt) (wFn fLen (wCons (wVar 0) (wNil))) (wCon (.int 1)))) (wTst (wOp (mGt) (wFn fLen (wCons (wVar 0) (wNil))) (wCon (.int 41))))))
     (w__law_wrong_0a_0)
     (wNext))
    (w__law_wrong_1)
def r__law_wrong : MSp := runM ["thing", "k"] 1 (w__law_wrong)
def w__law_bent_1a_0 : MTS :=
    wRet (wOp mIx (wLst (wCons (wTup (wCons (wCon .non) (wNil))) (wCons (wLst (wNil)) (wCons (wTup (wCons (wCon (.bl true)) (wNil))) (wCons (wTup (wCons (wCon (.int 2)) (wNil))) (wCons (wTup (wCons (wCon (.int 1)) (wNil))) (wCons (wCon .non) (wCons (wCon (.str "row")) (wNil))))))))) (wOp mMod (wVar 3) (wCon (.int 7))))
def w__law_bent_4a_0 : MTS :=
    wRet (wOp mAdd (wOp mAdd (wSl (wVar 2) (oNo) (oSome (wVar 5))) (wTup (wCons (wVar 6) (wNil)))) (wSl (wVar 2) (oSome (wOp mAdd (wVar 5) (wCon (.int 1)))) (oNo)))
def w__law_bent_5a_0 : MTS :=
    wRet (wRev (wVar 2))
def w__law_bent_6a_0 : MTS :=
    wRet (wOp mAdd (wOp mAdd (wSl (wVar 2) (oNo) (oSome (wVar 5))) (wSl (wVar 2) (oSome (wVar 5)) (oSome (wOp mAdd (wVar 5) (wCon (.int 1)))))) (wSl (wVar 2) (oSome (wVar 5)) (oNo)))
def w__law_bent_7 : MTS :=
    wRet (wOp mIx (wLst (wCons (wOp mAdd (wSl (wVar 2) (oNo) (oSome (wVar 5))) (wSl (wVar 2) (oSome (wOp mAdd (wVar 5) (wCon (.int 1)))) (oNo))) (wCons (wFn fList (wCons (wVar 2) (wNil))) (wNil)))) (wOp mMod (wOp mFdiv (wVar 3) (wCon (.int 6))) (wCon (.int 2))))
def w__law_bent_6 : MTS :=
    wSeq (wIf (wTst (wOp (mEq) (wOp mMod (wVar 3) (wCon (.int 6))) (wCon (.int 4))))
     (w__law_bent_6a_0)
     (wNext))
    (w__law_bent_7)
def w__law_bent_5 : MTS :=
    wSeq (wIf (wTst (wOp (mEq) (wOp mMod (wVar 3) (wCon (.int 6))) (wCon (.int 3))))
     (w__law_bent_5a_0)
     (wNext))
    (w__law_bent_6)
def w__law_bent_4 : MTS :=
    wSeq (wIf (wTst (wOp (mLt) (wOp mMod (wVar 3) (wCon (.int 6))) (wCon (.int 3))))
     (w__law_bent_4a_0)
     (wNext))
    (w__law_bent_5)
def w__law_bent_3 : MTS :=
    wSeq (wAsg (wOp mIx (wLst (wCons (wCon .non) (wCons (wCon (.bl true)) (wCons (wCon (.str "1")) (wCons (wTup (wCons (wCon (.int 1)) (wNil))) (wCons (wLst (wNil)) (wCons (wCon (.int 0)) (wCons (wCon (.int 2)) (wCons (wOp mSubA (wCon (.int 0)) (wCon (.int 1))) (wCons (wDct0) (wNil))))))))))) (wOp mMod (wOp mFdiv (wVar 3) (wCon (.int 6))) (wCon (.int 9)))) (gN 6))
    (w__law_bent_4)
def w__law_bent_2 : MTS :=
    wSeq (wAsg (wOp mIx (wLst (wCons (wOp mMod (wOp mFdiv (wVar 4) (wCon (.int 2))) (wFn fLen (wCons (wVar 2) (wNil)))) (wCons (wOp mSubA (wFn fLen (wCons (wVar 2) (wNil))) (wCon (.int 1))) (wNil)))) (wOp mMod (wVar 4) (wCon (.int 2)))) (gN 5))
    (w__law_bent_3)
def w__law_bent_1 : MTS :=
    wSeq (wIf (wTst (wOp (mEqN) (wVar 2) (wTup (wNil))))
     (w__law_bent_1a_0)
     (wNext))
    (w__law_bent_2)
def w__law_bent : MTS :=
    wSeq (wPar 3 4 (wCons (wCall (fun ms => r__law_cell ((fun ms ns => pick [0, 1] (ms ++ ns)) ms [])) 2 (wCons (wVar 0) (wCons (wVar 1) (wNil)))) (wCons (wCall (fun ms => r__law_cell ((fun ms ns => pick [0, 1] (ms ++ ns)) ms [])) 2 (wCons (wVar 0) (wCons (wVar 1) (wNil)))) (wNil))))
    (w__law_bent_1)
def r__law_bent : MSp := runM ["cells", "spot", "thing", "n", "m", "at", "odd"] 3 (w__law_bent)
def w__law_right_1a_0 (T : Str → Addr) : MTS :=
    wRet (wCon (.bl false))
def w__law_right_5a_0 (T : Str → Addr) : MTS :=
    wRet (wCon (.bl false))
def w__law_right_9a_0 (T : Str → Addr) : MTS :=
    wRet (wCon (.bl false))
def w__law_right_13 (T : Str → Addr) : MTS :=
    wRet (wAndV (wCall (fun ms => r__law_same ((fun ms ns => pick [0, 1] (ms ++ ns)) ms [])) 2 (wCons (wVar 4) (wCons (wVar 3) (wNil)))) (wOp (mEq) (wFn fRep (wCons (wVar 0) (wNil))) (wVar 2)))
def w__law_right_12 (T : Str → Addr) : MTS :=
    wSeq (wDrop (wBm kAppend (wVar 4) (wCons (wLam (T "_law_right") (qLam "_law_right") r__law_told (wCallK (r_height_of) (fun ms ns => pick [0] (ms ++ ns)) 0 1 wNil (wCons (wVar 0) (wNil)))) (wNil))))
    (w__law_right_13 T)
def w__law_right_11 (T : Str → Addr) : MTS :=
    wSeq (wAsg (wLst (wCons (wLam (T "_law_right") (qLam "_law_right") r__law_told (wCall (fun ms => r_height_of ((fun ms ns => pick [0] (ms ++ ns)) ms [])) 1 (wCons (wVar 0) (wNil)))) (wNil))) (gN 4))
    (w__law_right_12 T)
def w__law_right_10 (T : Str → Addr) : MTS :=
    wSeq (wAsg (wIfE (wTst (wOp (mEq) (wVar 1) (wLst (wNil)))) (wLst (wCons (wOp mIx (wVar 0) (wCon (.int 0))) (wNil))) (wTup (wCons (wCon (.str "row")) (wCons (wOp mIx (wVar 1) (wCon (.int 0))) (wNil))))) (gN 3))
    (w__law_right_11 T)
def w__law_right_9 (T : Str → Addr) : MTS :=
    wSeq (wIf (wNotT (wTst (wCall (fun ms => r__law_same ((fun ms ns => pick [0, 1] (ms ++ ns)) ms [])) 2 (wCons (wVar 4) (wCons (wVar 3) (wNil))))))
     (w__law_right_9a_0 T)
     (wNext))
    (w__law_right_10 T)
def w__law_right_8 (T : Str → Addr) : MTS :=
    wSeq (wDrop (wBm kAppend (wVar 4) (wCons (wLam (T "_law_right") (qLam "_law_right") r__law_told (wCallK (r_size_of) (fun ms ns => pick [0] (ms ++ ns)) 0 1 wNil (wCons (wVar 0) (wNil)))) (wNil))))
    (w__law_right_9 T)
def w__law_right_7 (T : Str → Addr) : MTS :=
    wSeq (wAsg (wLst (wCons (wLam (T "_law_right") (qLam "_law_right") r__law_told (wCall (fun ms => r_size_of ((fun ms ns => pick [0] (ms ++ ns)) ms [])) 1 (wCons (wVar 0) (wNil)))) (wNil))) (gN 4))
    (w__law_right_8 T)
def w__law_right_6 (T : Str → Addr) : MTS :=
    wSeq (wAsg (wIfE (wTst (wOp (mEq) (wVar 1) (wLst (wNil)))) (wLst (wCons (wOp mSubA (wFn fLen (wCons (wVar 0) (wNil))) (wCon (.int 1))) (wNil))) (wTup (wCons (wCon (.str "row")) (wCons (wOp mIx (wVar 1) (wCon (.int 0))) (wNil))))) (gN 3))
    (w__law_right_7 T)
def w__law_right_5 (T : Str → Addr) : MTS :=
    wSeq (wIf (wNotT (wTst (wCall (fun ms => r__law_same ((fun ms ns => pick [0, 1] (ms ++ ns)) ms [])) 2 (wCons (wVar 4) (wCons (wVar 3) (wNil))))))
     (w__law_right_5a_0 T)
     (wNext))
    (w__law_right_6 T)
def w__law_right_4 (T : Str → Addr) : MTS :=
    wSeq (wDrop (wBm kAppend (wVar 4) (wCons (wLam (T "_law_right") (qLam "_law_right") r__law_told (wCallK (r_check_row) (fun ms ns => pick [0] (ms ++ ns)) 0 1 wNil (wCons (wVar 0) (wNil)))) (wNil))))
    (w__law_right_5 T)
def w__law_right_3 (T : Str → Addr) : MTS :=
    wSeq (wAsg (wLst (wCons (wLam (T "_law_right") (qLam "_law_right") r__law_told (wCall (fun ms => r_check_row ((fun ms ns => pick [0] (ms ++ ns)) ms [])) 1 (wCons (wVar 0) (wNil)))) (wNil))) (gN 4))
    (w__law_right_4 T)
def w__law_right_2 (T : Str → Addr) : MTS :=
    wSeq (wAsg (wIfE (wTst (wOp (mEq) (wVar 1) (wLst (wNil)))) (wLst (wCons (wCon .non) (wNil))) (wTup (wCons (wCon (.str "row")) (wCons (wOp mIx (wVar 1) (wCon (.int 0))) (wNil))))) (gN 3))
    (w__law_right_3 T)
def w__law_right_1 (T : Str → Addr) : MTS :=
    wSeq (wIf (wNotT (wTst (wCall (fun ms => r__law_same ((fun ms ns => pick [0, 1] (ms ++ ns)) ms [])) 2 (wCons (wLst (wCons (wCall (fun ms => r_is_row ((fun ms ns => pick [0] (ms ++ ns)) ms [])) 1 (wCons (wVar 0) (wNil))) (wCons (wCallK (r_is_row) (fun ms ns => pick [0] (ms ++ ns)) 0 1 wNil (wCons (wVar 0) (wNil))) (wNil)))) (wCons (wOp (mEq) (wVar 1) (wLst (wNil))) (wNil))))))
     (w__law_right_1a_0 T)
     (wNext))
    (w__law_right_2 T)
def w__law_right (T : Str → Addr) : MTS :=
    wSeq (wPar 1 2 (wCons (wCall (fun ms => r__law_wrong ((fun ms ns => pick [0] (ms ++ ns)) ms [])) 1 (wCons (wVar 0) (wNil))) (wCons (wFn fRep (wCons (wVar 0) (wNil))) (wNil))))
    (w__law_right_1 T)
def r__law_right (T : Str → Addr) : MSp := runM ["thing", "wrong", "kept", "due", "found"] 1 (w__law_right T)
def w_law_1a2a_0 (T : Str → Addr) : MTS :=
    wAsg (wCall (fun ms => r__law_bent ((fun ms ns => pick [0, 1, 2] (ms ++ ns)) ms [])) 3 (wCons (wVar 0) (wCons (wVar 1) (wCons (wVar 4) (wNil))))) (gN 5)
def w_law_1a3a0a_0 (T : Str → Addr) : MTS :=
    wRet (wCon (.bl false))
def w_law_1a3a_0 (T : Str → Addr) : MTS :=
    wIf (wNotT (wTst (wCall (fun ms => r__law_right T ((fun ms ns => pick [0] (ms ++ ns)) ms [])) 1 (wCons (wVar 6) (wNil)))))
       (w_law_1a3a0a_0 T)
       (wNext)
def w_law_1a_3 (T : Str → Addr) : MTS :=
    wFor (wSeqI (wTup (wCons (wVar 3) (wCons (wVar 4) (wCons (wVar 5) (wCons (wVar 3) (wCons (wFn fList (wCons (wVar 3) (wNil))) (wNil)))))))) (gN 6)
      (w_law_1a3a_0 T)
def w_law_1a_2 (T : Str → Addr) : MTS :=
    wSeq (wIf (wTst (wFn (fIsi xt0) (wCons (wVar 4) (wCons (wCon (.ty "tuple")) (wNil)))))
      (w_law_1a2a_0 T)
      (wNext))
    (w_law_1a_3 T)
def w_law_1a_1 (T : Str → Addr) : MTS :=
    wSeq (wPar 4 5 (wCons (wCall (fun ms => r__law_bent ((fun ms ns => pick [0, 1, 2] (ms ++ ns)) ms [])) 3 (wCons (wVar 0) (wCons (wVar 1) (wCons (wVar 3) (wNil))))) (wCons (wCon .non) (wNil))))
    (w_law_1a_2 T)
def w_law_1a_0 (T : Str → Addr) : MTS :=
    wSeq (wAsg (wCall (fun ms => r__law_any ((fun ms ns => pick [0, 1] (ms ++ ns)) ms [])) 2 (wCons (wVar 0) (wCons (wVar 1) (wNil)))) (gN 3))
    (w_law_1a_1 T)
def w_law_4 (T : Str → Addr) : MTS :=
    wRet (wFn fAll (wCons (wComp (wSeqI (wOp mAdd (wVar 8) (wLst (wCons (wLst (wCons (wCon (.int 1)) (wNil))) (wCons (wTup (wCons (wTup (wCons (wCon (.int 1)) (wNil))) (wNil))) (wCons (wTup (wCons (wCon (.int 1)) (wCons (wCon (.bl true)) (wNil)))) (wNil))))))) (.one 6) (wYes) (wCall (fun ms => r__law_right T ((fun ms ns => pick [0] (ms ++ ns)) ms [])) 1 (wCons (wVar 6) (wNil))) (List.map (fun p => p.2) ([("thing", 6)] : List (Str × Nat)))) (wNil)))
def w_law_3 (T : Str → Addr) : MTS :=
    wSeq (wAsg (wLst (wCons (wOp mAdd (wVar 7) (wTup (wCons (wCon (.int 1)) (wNil)))) (wCons (wOp mAdd (wVar 7) (wTup (wCons (wCon (.int 3)) (wCons (wCon (.int 1)) (wNil))))) (wCons (wTup (wCons (wCon (.int 1)) (wNil))) (wCons (wTup (wCons (wCon (.int 0)) (wNil))) (wCons (wTup (wNil)) (wCons (wCon .non) (wCons (wCon (.int 1)) (wCons (wCon (.str "row")) (wCons (wDct0) (wCons (wCon (.bl true)) (wNil)))))))))))) (gN 8))
    (w_law_4 T)
def w_law_2 (T : Str → Addr) : MTS :=
    wSeq (wAsg (wOp mMul (wTup (wCons (wCon (.int 3)) (wNil))) (wCon (.int 40))) (gN 7))
    (w_law_3 T)
def w_law_1 (T : Str → Addr) : MTS :=
    wSeq (wFor (wRng1 (wCons (wOp mAdd (wCon (.int 3)) (wFn fMin2 (wCons (wCon (.int 9)) (wCons (wFn fLen (wCons (wVar 0) (wNil))) (wNil))))) (wNil))) (gN 2)
     (w_law_1a_0 T))
    (w_law_2 T)
def w_law (T : Str → Addr) : MTS :=
    wSeq (wAsg (wLst (wCons (wCon (.int 0)) (wNil))) (gN 1))
    (w_law_1 T)
def r_law (T : Str → Addr) : MSp := runM ["script", "spot", "turn", "held", "bent", "twice", "thing", "wide", "some"] 1 (w_law T)
theorem sc_is_integer : FnScope ["value", "least", "most"] ["value", "least", "most"] (defScope (top 12)) := ⟨by kernel_rfl, by kernel_rfl, by kernel_rfl, by decide +kernel, rfl, by decide +kernel, by decide +kernel⟩
theorem sc_check_row : FnScope ["value", "index", "entry"] ["value"] (defScope (top 15)) := ⟨by kernel_rfl, by kernel_rfl, by kernel_rfl, by decide +kernel, rfl, by decide +kernel, by decide +kernel⟩
theorem sc_is_row : FnScope ["value", "entry"] ["value"] (defScope (top 16)) := ⟨by kernel_rfl, by kernel_rfl, by kernel_rfl, by decide +kernel, rfl, by decide +kernel, by decide +kernel⟩
theorem sc_size_of : FnScope ["row"] ["row"] (defScope (top 17)) := ⟨by kernel_rfl, by kernel_rfl, by kernel_rfl, by decide +kernel, rfl, by decide +kernel, by decide +kernel⟩
theorem sc_height_of : FnScope ["row"] ["row"] (defScope (top 18)) := ⟨by kernel_rfl, by kernel_rfl, by kernel_rfl, by decide +kernel, rfl, by decide +kernel, by decide +kernel⟩
theorem sc__law_cell : FnScope ["cells", "spot", "k", "base", "own", "turn"] ["cells", "spot"] (defScope (top 20)) := ⟨by kernel_rfl, by kernel_rfl, by kernel_rfl, by decide +kernel, rfl, by decide +kernel, by decide +kernel⟩
theorem sc__law_told : FnScope ["deed", "error", "found", "e", "kinds", "bases", "at", "words"] ["deed"] (defScope (top 21)) := ⟨by kernel_rfl, by kernel_rfl, by kernel_rfl, by decide +kernel, rfl, by decide +kernel, by decide +kernel⟩
theorem sc__law_same : FnScope ["found", "due"] ["found", "due"] (defScope (top 22)) := ⟨by kernel_rfl, by kernel_rfl, by kernel_rfl, by decide +kernel, rfl, by decide +kernel, by decide +kernel⟩
theorem sc__law_any : FnScope ["cells", "spot", "n", "found", "k", "m"] ["cells", "spot"] (defScope (top 23)) := ⟨by kernel_rfl, by kernel_rfl, by kernel_rfl, by decide +kernel, rfl, by decide +kernel, by decide +kernel⟩
theorem sc__law_wrong : FnScope ["thing", "k"] ["thing"] (defScope (top 24)) := ⟨by kernel_rfl, by kernel_rfl, by kernel_rfl, by decide +kernel, rfl, by decide +kernel, by decide +kernel⟩
theorem sc__law_bent : FnScope ["cells", "spot", "thing", "n", "m", "at", "odd"] ["cells", "spot", "thing"] (defScope (top 25)) := ⟨by kernel_rfl, by kernel_rfl, by kernel_rfl, by decide +kernel, rfl, by decide +kernel, by decide +kernel⟩
theorem sc__law_right : FnScope ["thing", "wrong", "kept", "due", "found"] ["thing"] (defScope (top 26)) := ⟨by kernel_rfl, by kernel_rfl, by kernel_rfl, by decide +kernel, rfl, by decide +kernel, by decide +kernel⟩
theorem sc_law : FnScope ["script", "spot", "turn", "held", "bent", "twice", "thing", "wide", "some"] ["script"] (defScope (top 27)) := ⟨by kernel_rfl, by kernel_rfl, by kernel_rfl, by decide +kernel, rfl, by decide +kernel, by decide +kernel⟩
def defBodyC (s : Stmt) : List Stmt := match s with
  | .ClassDef _ _ _ b _ _ _ _ _ _ _ => b
  | _ => []
structure FX (K : PySem.W.Frag) (mg : Str → Option Value) : Prop where
  sm : ∃ o, K.lookup sysModules = some o
  d_is_integer : ∃ fd, FunD K "is_integer" "is_integer" (defArgs (top 12)) (defBody (top 12)) (defScope (top 12)) [] [("least", .non), ("most", .non)] (He.ga K "is_integer") fd
  d_check_row : ∃ fd, FunD K "check_row" "check_row" (defArgs (top 15)) (defBody (top 15)) (defScope (top 15)) [] [] (He.ga K "check_row") fd
  d_is_row : ∃ fd, FunD K "is_row" "is_row" (defArgs (top 16)) (defBody (top 16)) (defScope (top 16)) [] [] (He.ga K "is_row") fd
  d_size_of : ∃ fd, FunD K "size_of" "size_of" (defArgs (top 17)) (defBody (top 17)) (defScope (top 17)) [] [] (He.ga K "size_of") fd
  d_height_of : ∃ fd, FunD K "height_of" "height_of" (defArgs (top 18)) (defBody (top 18)) (defScope (top 18)) [] [] (He.ga K "height_of") fd
  d__law_cell : ∃ fd, FunD K "_law_cell" "_law_cell" (defArgs (top 20)) (defBody (top 20)) (defScope (top 20)) [] [] (He.ga K "_law_cell") fd
  d__law_told : ∃ fd, FunD K "_law_told" "_law_told" (defArgs (top 21)) (defBody (top 21)) (defScope (top 21)) [] [] (He.ga K "_law_told") fd
  d__law_same : ∃ fd, FunD K "_law_same" "_law_same" (defArgs (top 22)) (defBody (top 22)) (defScope (top 22)) [] [] (He.ga K "_law_same") fd
  d__law_any : ∃ fd, FunD K "_law_any" "_law_any" (defArgs (top 23)) (defBody (top 23)) (defScope (top 23)) [] [] (He.ga K "_law_any") fd
  d__law_wrong : ∃ fd, FunD K "_law_wrong" "_law_wrong" (defArgs (top 24)) (defBody (top 24)) (defScope (top 24)) [] [] (He.ga K "_law_wrong") fd
  d__law_bent : ∃ fd, FunD K "_law_bent" "_law_bent" (defArgs (top 25)) (defBody (top 25)) (defScope (top 25)) [] [] (He.ga K "_law_bent") fd
  d__law_right : ∃ fd, FunD K "_law_right" "_law_right" (defArgs (top 26)) (defBody (top 26)) (defScope (top 26)) [] [] (He.ga K "_law_right") fd
  d_law : ∃ fd, FunD K "law" "law" (defArgs (top 27)) (defBody (top 27)) (defScope (top 27)) [] [] (He.ga K "law") fd
  g_InvalidBag : mg "InvalidBag" = some (.ref (He.ga K "InvalidBag"))
  g_InvalidDistance : mg "InvalidDistance" = some (.ref (He.ga K "InvalidDistance"))
  g_InvalidNumber : mg "InvalidNumber" = some (.ref (He.ga K "InvalidNumber"))
  g_InvalidPlace : mg "InvalidPlace" = some (.ref (He.ga K "InvalidPlace"))
  g_InvalidRow : mg "InvalidRow" = some (.ref (He.ga K "InvalidRow"))
  g_NoStone : mg "NoStone" = some (.ref (He.ga K "NoStone"))
  g_OutOfBounds : mg "OutOfBounds" = some (.ref (He.ga K "OutOfBounds"))
  g_StoneError : mg "StoneError" = some (.ref (He.ga K "StoneError"))
  g_TooManyStones : mg "TooManyStones" = some (.ref (He.ga K "TooManyStones"))
  g_WalkError : mg "WalkError" = some (.ref (He.ga K "WalkError"))
  g__law_any : mg "_law_any" = some (.ref (He.ga K "_law_any"))
  g__law_bent : mg "_law_bent" = some (.ref (He.ga K "_law_bent"))
  g__law_cell : mg "_law_cell" = some (.ref (He.ga K "_law_cell"))
  g__law_right : mg "_law_right" = some (.ref (He.ga K "_law_right"))
  g__law_same : mg "_law_same" = some (.ref (He.ga K "_law_same"))
  g__law_told : mg "_law_told" = some (.ref (He.ga K "_law_told"))
  g__law_wrong : mg "_law_wrong" = some (.ref (He.ga K "_law_wrong"))
  g_check_row : mg "check_row" = some (.ref (He.ga K "check_row"))
  g_height_of : mg "height_of" = some (.ref (He.ga K "height_of"))
  g_is_integer : mg "is_integer" = some (.ref (He.ga K "is_integer"))
  g_is_row : mg "is_row" = some (.ref (He.ga K "is_row"))
  g_law : mg "law" = some (.ref (He.ga K "law"))
  g_size_of : mg "size_of" = some (.ref (He.ga K "size_of"))
  z_RuntimeError : mg "RuntimeError" = none
  z_ValueError : mg "ValueError" = none
  z_all : mg "all" = none
  z_bool : mg "bool" = none
  z_enumerate : mg "enumerate" = none
  z_int : mg "int" = none
  z_isinstance : mg "isinstance" = none
  z_len : mg "len" = none
  z_list : mg "list" = none
  z_min : mg "min" = none
  z_range : mg "range" = none
  z_repr : mg "repr" = none
  z_tuple : mg "tuple" = none
  i_MAX_STONES : ∃ t, mg "MAX_STONES" = some (.int 40 t)
  n_InvalidRow : ∃ fd, FunD K "__init__" "InvalidRow.__init__" (defArgs ((defBodyC (top 6)).getD 0 (.Pass ⟨0, 0, 0, 0⟩))) (defBody ((defBodyC (top 6)).getD 0 (.Pass ⟨0, 0, 0, 0⟩))) (defScope ((defBodyC (top 6)).getD 0 (.Pass ⟨0, 0, 0, 0⟩))) [.non] [] (He.fAd K ("InvalidRow", some "__init__")) fd
  m_InvalidRow : MkC K (He.ga K "InvalidRow") vTail "ValueError.__new__"
  b_InvalidRow : BaseC K (He.ga K "StoneError") "ValueError.__init__"
  f_InvalidRow : PySem.W.findIn K (.ref (He.ga K "InvalidRow")) "position" = some none
  a_InvalidRow : PySem.W.findIn K (.ref (He.ga K "InvalidRow")) "__init__" = some (some (.ref (He.fAd K ("InvalidRow", some "__init__"))))
  t_InvalidRow : PySem.W.typeIn K (.ref (He.fAd K ("InvalidRow", some "__init__"))) = some (.type "function")
  xk : ∀ C ∈ xcs, ExcK K (He.ga K C)
  xn_limit : ∀ C ∈ xcs, PySem.W.findIn K (.ref (He.ga K C)) "limit" = some none
  xn_position : ∀ C ∈ xcs, PySem.W.findIn K (.ref (He.ga K C)) "position" = some none
  xn_value : ∀ C ∈ xcs, PySem.W.findIn K (.ref (He.ga K C)) "value" = some none
  x_catch : ∀ C ∈ xcs, PySem.W.exmAny K (.ref (He.ga K C)) [.ref (He.ga K "StoneError"), .ref (He.ga K "WalkError")] = some (xcat C)
  x_isi : ∀ C ∈ xcs, ∀ x ∈ (["InvalidBag", "InvalidDistance", "InvalidNumber", "InvalidPlace", "InvalidRow", "NoStone", "OutOfBounds", "StoneError", "TooManyStones", "WalkError"] : List Str), PySem.W.kitOne K (.ref (He.ga K C)) (.ref (He.ga K x)) = xtI C (.glo x)
  x_isT : ∀ C ∈ xcs, ∀ x ∈ (["RuntimeError", "ValueError"] : List String), PySem.W.kitOne K (.ref (He.ga K C)) (.type x) = xtI C (.ty x)
theorem FX.xtI_ok {K : PySem.W.Frag} {mg : Str → Option Value} (G : FX K mg) : XtOk K xtI := by
  intro C m b h
  cases m with
  | glo x =>
    by_cases hc : C ∈ xcs ∧ x ∈ (["InvalidBag", "InvalidDistance", "InvalidNumber", "InvalidPlace", "InvalidRow", "NoStone", "OutOfBounds", "StoneError", "TooManyStones", "WalkError"] : List Str)
    · exact ⟨G.xk C hc.1, _, rfl, (G.x_isi C hc.1 x hc.2).trans h⟩
    · rw [xtI, if_neg hc] at h; cases h
  | ty x =>
    by_cases hc : C ∈ xcs ∧ x ∈ (["RuntimeError", "ValueError"] : List String)
    · exact ⟨G.xk C hc.1, _, rfl, (G.x_isT C hc.1 x hc.2).trans h⟩
    · rw [xtI, if_neg hc] at h; cases h
  | _ => cases h
theorem FX.xf_limit {K : PySem.W.Frag} {mg : Str → Option Value} (G : FX K mg) : ∀ C ∈ xcs, ExcK K (He.ga K C) ∧ PySem.W.findIn K (.ref (He.ga K C)) "limit" = some none := fun C h => ⟨G.xk C h, G.xn_limit C h⟩
theorem FX.xf_position {K : PySem.W.Frag} {mg : Str → Option Value} (G : FX K mg) : ∀ C ∈ xcs, ExcK K (He.ga K C) ∧ PySem.W.findIn K (.ref (He.ga K C)) "position" = some none := fun C h => ⟨G.xk C h, G.xn_position C h⟩
theorem FX.xf_value {K : PySem.W.Frag} {mg : Str → Option Value} (G : FX K mg) : ∀ C ∈ xcs, ExcK K (He.ga K C) ∧ PySem.W.findIn K (.ref (He.ga K C)) "value" = some none := fun C h => ⟨G.xk C h, G.xn_value C h⟩
section
variable {P : Program} {w : World} {K : PySem.W.Frag} {mg : Str → Option Value} {base : Heap}
theorem sI_InvalidRow : FnScope ["self", "position"] ["self", "position"] (defScope ((defBodyC (top 6)).getD 0 (.Pass ⟨0, 0, 0, 0⟩))) := ⟨by kernel_rfl, by kernel_rfl, by kernel_rfl, by decide +kernel, rfl, by decide +kernel, by decide +kernel⟩
theorem FX.ini_InvalidRow (G : FX K mg) : ∃ fd, FunD K "__init__" "InvalidRow.__init__" (defArgs ((defBodyC (top 6)).getD 0 (.Pass ⟨0, 0, 0, 0⟩))) (defBody ((defBodyC (top 6)).getD 0 (.Pass ⟨0, 0, 0, 0⟩))) (defScope ((defBodyC (top 6)).getD 0 (.Pass ⟨0, 0, 0, 0⟩))) [.non] [] (He.fAd K ("InvalidRow", some "__init__")) fd ∧ FnOk P w K mg base (L2.CX P w) 1 (He.fAd K ("InvalidRow", some "__init__")) fd ["self", "position"] (spI (He.ga K "InvalidRow") "position") := by
  obtain ⟨fd, D⟩ := G.n_InvalidRow
  exact ⟨fd, D, init_ok (k := 0) famV G.m_InvalidRow G.b_InvalidRow D sI_InvalidRow rfl G.g_StoneError G.f_InvalidRow (.inl rfl) (.inl rfl) rfl⟩
theorem FX.x1_InvalidRow (G : FX K mg) : ExMk P w K mg base 1 "InvalidRow" "position" [] := by
  obtain ⟨fd, D, F⟩ := G.ini_InvalidRow (P := P) (w := w) (base := base)
  obtain ⟨ds, hv, hb⟩ := D.binds1 (ps := ["self", "position"]) 2 1 (by simp) rfl (fun T kV doc pm an cdv ct us its hl hi => match us, its, hl, hi with | [_, _], [_], _, _ => ⟨_, rfl, rfl⟩)
  have e : ds = [] := by cases hv; rfl
  subst e
  exact ⟨⟨_, _, _, _, fd, _, [], [], famV, G.m_InvalidRow, G.a_InvalidRow, G.t_InvalidRow, F, hb, .nil, fun _ _ => rfl⟩, G.g_InvalidRow⟩
theorem FX.x0_InvalidRow (G : FX K mg) : ExMk P w K mg base 1 "InvalidRow" "position" [.non] := by
  obtain ⟨fd, D, F⟩ := G.ini_InvalidRow (P := P) (w := w) (base := base)
  obtain ⟨ds, hv, hb⟩ := D.binds1 (ps := ["self", "position"]) 1 0 (by simp) rfl (fun T kV doc pm an cdv ct us its hl hi => match us, its, hl, hi with | [_], [_], _, _ => ⟨_, rfl, rfl⟩)
  exact ⟨⟨_, _, _, _, fd, _, ds, _, famV, G.m_InvalidRow, G.a_InvalidRow, G.t_InvalidRow, F, hb, hv, fun _ _ => ⟨_, _, rfl, rfl, rfl⟩⟩, G.g_InvalidRow⟩
theorem ok_is_integer (G : FX K mg) : ∃ fd, FunD K "is_integer" "is_integer" (defArgs (top 12)) (defBody (top 12)) (defScope (top 12)) [] [("least", .non), ("most", .non)] (He.ga K "is_integer") fd ∧ FnM P w K mg base 1 (He.ga K "is_integer") fd ["value", "least", "most"] (r_is_integer) := by
  obtain ⟨fd, D⟩ := G.d_is_integer
  refine ⟨fd, D, fnm_at (k := 0) D sc_is_integer G.sm fun A outer s H E c => ?_⟩
  exact s_cons (s_if (t_w (w_or (t_not (t_val (m_fnB (x := "isinstance") call_isiA (l_isi xt0_ok) rfl G.z_isinstance PyProof.Rows.Boot.«isinstance» (ma_cons (m_var (i := 0) rfl (by first | exact .inl rfl | exact .inr (.inl rfl) | exact .inr (.inr rfl))) (ma_cons (m_ty (x := "int") rfl G.z_int PyProof.Rows.Boot.«int») (ma_nil)))))) (w_or1 (t_val (m_fnB (x := "isinstance") call_isiA (l_isi xt0_ok) rfl G.z_isinstance PyProof.Rows.Boot.«isinstance» (ma_cons (m_var (i := 0) rfl (by first | exact .inl rfl | exact .inr (.inl rfl) | exact .inr (.inr rfl))) (ma_cons (m_ty (x := "bool") rfl G.z_bool PyProof.Rows.Boot.«bool») (ma_nil))))))))
     (s_one (s_ret (m_bl)))
     (s_nil))
    (s_one (s_ret (m_and (m_or (m_cmp op_isN l_is (m_var (i := 1) rfl (by first | exact .inl rfl | exact .inr (.inl rfl) | exact .inr (.inr rfl))) (m_non) (nomark _)) (m_and1 (m_cmp op_ge l_ge (m_var (i := 0) rfl (by first | exact .inl rfl | exact .inr (.inl rfl) | exact .inr (.inr rfl))) (m_var (i := 1) rfl (by first | exact .inl rfl | exact .inr (.inl rfl) | exact .inr (.inr rfl))) (nomark _)))) (m_and1 (m_or (m_cmp op_isN l_is (m_var (i := 2) rfl (by first | exact .inl rfl | exact .inr (.inl rfl) | exact .inr (.inr rfl))) (m_non) (nomark _)) (m_and1 (m_cmp op_le l_le (m_var (i := 0) rfl (by first | exact .inl rfl | exact .inr (.inl rfl) | exact .inr (.inr rfl))) (m_var (i := 2) rfl (by first | exact .inl rfl | exact .inr (.inl rfl) | exact .inr (.inr rfl))) (nomark _))))))))
theorem ok_check_row (G : FX K mg) : ∃ fd, FunD K "check_row" "check_row" (defArgs (top 15)) (defBody (top 15)) (defScope (top 15)) [] [] (He.ga K "check_row") fd ∧ FnM P w K mg base 3 (He.ga K "check_row") fd ["value"] (r_check_row) := by
  obtain ⟨fd, D⟩ := G.d_check_row
  obtain ⟨fd_is_integer, D_is_integer, F_is_integer⟩ := ok_is_integer (P := P) (w := w) (base := base) G
  obtain ⟨mv_kb_is_integer_1, kb_is_integer_1⟩ := kb_kw (ps := ["value", "least", "most"]) D_is_integer 1 [] ([("least", .non), ("most", .non)] : List (Str × V)) [.non, .non] [0, 1, 2] (by simp) (by simp) (fun _ _ => ⟨_, _, rfl, rfl, ⟨_, _, rfl, rfl, rfl⟩⟩) (fun _ _ _ _ _ _ us mv ws h1 h2 h3 => match us, mv, ws, h1, h2, h3 with | [_], [_, _], [], _, _, _ => ⟨_, _, _, _, _, _, rfl, rfl, ⟨_, _, _, _, _, _, rfl, rfl, rfl⟩⟩)
  refine ⟨fd, D, fnm_at (k := 2) D sc_check_row G.sm fun A outer s H E c => ?_⟩
  exact s_cons (s_if (t_w (w_or (t_not (t_val (m_fnB (x := "isinstance") call_isiA (l_isi xt0_ok) rfl G.z_isinstance PyProof.Rows.Boot.«isinstance» (ma_cons (m_var (i := 0) rfl (by first | exact .inl rfl | exact .inr (.inl rfl) | exact .inr (.inr rfl))) (ma_cons (m_ty (x := "tuple") rfl G.z_tuple PyProof.Rows.Boot.«tuple») (ma_nil)))))) (w_or1 (t_not (t_chain op_le l_le op_le l_le (m_int) (m_fnB (x := "len") call_len l_len rfl G.z_len PyProof.Rows.Boot.«len» (ma_cons (m_var (i := 0) rfl (by first | exact .inl rfl | exact .inr (.inl rfl) | exact .inr (.inr rfl))) (ma_nil))) (m_op op_addA l_add (m_gint (x := "MAX_STONES") rfl G.i_MAX_STONES.choose_spec) (m_int)))))))
     (s_one (s_raise0 (x := "InvalidRow") c (G.x0_InvalidRow (P := P) (w := w) (base := base)) (by decide) rfl))
     (s_nil))
    (s_cons (s_for c (i_enum rfl G.z_enumerate (ma_cons (m_var (i := 0) rfl (by first | exact .inl rfl | exact .inr (.inl rfl) | exact .inr (.inr rfl))) (ma_nil))) (g_tup c.calm (gs_cons (g_name c.nd (i := 1) rfl (by first | exact .inl rfl | exact .inr rfl) (.inl rfl)) (gs_cons (g_name c.nd (i := 2) rfl (by first | exact .inl rfl | exact .inr rfl) (.inl rfl)) (gs_nil))))
     (s_one (s_if (t_not (t_val (m_call (x := "is_integer") (F_is_integer.mono (by decide)) c (by rfl) G.g_is_integer D_is_integer.kp kb_is_integer_1 (ma_cons (m_var (i := 2) rfl (by first | exact .inl rfl | exact .inr (.inl rfl) | exact .inr (.inr rfl))) (ma_nil)))))
      (s_one (s_raise (x := "InvalidRow") c (G.x1_InvalidRow (P := P) (w := w) (base := base)) (by decide) rfl (ma_cons (m_var (i := 1) rfl (by first | exact .inl rfl | exact .inr (.inl rfl) | exact .inr (.inr rfl))) (ma_nil))))
      (s_nil))))
    (s_one (s_if (t_cmp (op_neA c.rm.r.units) l_ne (m_ix ix_seq l_ix (m_var (i := 0) rfl (by first | exact .inl rfl | exact .inr (.inl rfl) | exact .inr (.inr rfl))) (m_un un_neg l_neg (m_int)) (fun _ _ => rfl)) (m_int) (nomark _))
     (s_one (s_raise (x := "InvalidRow") c (G.x1_InvalidRow (P := P) (w := w) (base := base)) (by decide) rfl (ma_cons (m_str) (ma_nil))))
     (s_nil))))
theorem ok_is_row (G : FX K mg) : ∃ fd, FunD K "is_row" "is_row" (defArgs (top 16)) (defBody (top 16)) (defScope (top 16)) [] [] (He.ga K "is_row") fd ∧ FnM P w K mg base 2 (He.ga K "is_row") fd ["value"] (r_is_row) := by
  obtain ⟨fd, D⟩ := G.d_is_row
  obtain ⟨fd_is_integer, D_is_integer, F_is_integer⟩ := ok_is_integer (P := P) (w := w) (base := base) G
  obtain ⟨mv_kb_is_integer_1, kb_is_integer_1⟩ := kb_kw (ps := ["value", "least", "most"]) D_is_integer 1 [] ([("least", .non), ("most", .non)] : List (Str × V)) [.non, .non] [0, 1, 2] (by simp) (by simp) (fun _ _ => ⟨_, _, rfl, rfl, ⟨_, _, rfl, rfl, rfl⟩⟩) (fun _ _ _ _ _ _ us mv ws h1 h2 h3 => match us, mv, ws, h1, h2, h3 with | [_], [_, _], [], _, _, _ => ⟨_, _, _, _, _, _, rfl, rfl, ⟨_, _, _, _, _, _, rfl, rfl, rfl⟩⟩)
  refine ⟨fd, D, fnm_at (k := 1) D sc_is_row G.sm fun A outer s H E c => ?_⟩
  exact s_cons (s_if (t_w (w_or (t_not (t_val (m_fnB (x := "isinstance") call_isiA (l_isi xt0_ok) rfl G.z_isinstance PyProof.Rows.Boot.«isinstance» (ma_cons (m_var (i := 0) rfl (by first | exact .inl rfl | exact .inr (.inl rfl) | exact .inr (.inr rfl))) (ma_cons (m_ty (x := "tuple") rfl G.z_tuple PyProof.Rows.Boot.«tuple») (ma_nil)))))) (w_or1 (t_not (t_chain op_le l_le op_le l_le (m_int) (m_fnB (x := "len") call_len l_len rfl G.z_len PyProof.Rows.Boot.«len» (ma_cons (m_var (i := 0) rfl (by first | exact .inl rfl | exact .inr (.inl rfl) | exact .inr (.inr rfl))) (ma_nil))) (m_op op_addA l_add (m_gint (x := "MAX_STONES") rfl G.i_MAX_STONES.choose_spec) (m_int)))))))
     (s_one (s_ret (m_bl)))
     (s_nil))
    (s_one (s_ret (m_and (m_fnB (x := "all") (cr_all c.calm) l_all rfl G.z_all PyProof.Rows.Boot.«all» (ma_cons (m_comp (tg := (.one 1)) c.calm c.nd (i_seq (m_var (i := 0) rfl (by first | exact .inl rfl | exact .inr (.inl rfl) | exact .inr (.inr rfl)))) (blkOk_by (own := [("entry", 1)]) (by kernel_rfl)) ((by decide)) (fun s H C cl fp => pg_name c.nd rfl (by first | exact .inl rfl | exact .inr rfl) (.inr rfl)) (fun s H C cl fp => ts_nil) (fun s H C cl fp => m_call (x := "is_integer") (F_is_integer.mono (by decide)) (cm_blk c s H _ _ fp) (by rfl) G.g_is_integer D_is_integer.kp kb_is_integer_1 (ma_cons (m_var (i := 1) rfl (by first | exact .inl rfl | exact .inr (.inl rfl) | exact .inr (.inr rfl))) (ma_nil)))) (ma_nil))) (m_and1 (m_cmp (op_eqA c.rm.r.units) l_eq (m_ix ix_seq l_ix (m_var (i := 0) rfl (by first | exact .inl rfl | exact .inr (.inl rfl) | exact .inr (.inr rfl))) (m_un un_neg l_neg (m_int)) (fun _ _ => rfl)) (m_int) (nomark _))))))
theorem ok_size_of (G : FX K mg) : ∃ fd, FunD K "size_of" "size_of" (defArgs (top 17)) (defBody (top 17)) (defScope (top 17)) [] [] (He.ga K "size_of") fd ∧ FnM P w K mg base 4 (He.ga K "size_of") fd ["row"] (r_size_of) := by
  obtain ⟨fd, D⟩ := G.d_size_of
  obtain ⟨fd_check_row, D_check_row, F_check_row⟩ := ok_check_row (P := P) (w := w) (base := base) G
  have kb_check_row_1 := kb_all (ps := ["value"]) D_check_row 1 [] [0] (fun _ _ _ _ _ _ us ws h1 h2 => match us, ws, h1, h2 with | [_], [], _, _ => rfl)
  refine ⟨fd, D, fnm_at (k := 3) D sc_size_of G.sm fun A outer s H E c => ?_⟩
  exact s_cons (s_expr (m_call (x := "check_row") (F_check_row.mono (by decide)) c (by rfl) G.g_check_row D_check_row.kp kb_check_row_1 (ma_cons (m_var (i := 0) rfl (by first | exact .inl rfl | exact .inr (.inl rfl) | exact .inr (.inr rfl))) (ma_nil))))
    (s_one (s_ret (m_op op_subA l_subA (m_fnB (x := "len") call_len l_len rfl G.z_len PyProof.Rows.Boot.«len» (ma_cons (m_var (i := 0) rfl (by first | exact .inl rfl | exact .inr (.inl rfl) | exact .inr (.inr rfl))) (ma_nil))) (m_int))))
theorem ok_height_of (G : FX K mg) : ∃ fd, FunD K "height_of" "height_of" (defArgs (top 18)) (defBody (top 18)) (defScope (top 18)) [] [] (He.ga K "height_of") fd ∧ FnM P w K mg base 4 (He.ga K "height_of") fd ["row"] (r_height_of) := by
  obtain ⟨fd, D⟩ := G.d_height_of
  obtain ⟨fd_check_row, D_check_row, F_check_row⟩ := ok_check_row (P := P) (w := w) (base := base) G
  have kb_check_row_1 := kb_all (ps := ["value"]) D_check_row 1 [] [0] (fun _ _ _ _ _ _ us ws h1 h2 => match us, ws, h1, h2 with | [_], [], _, _ => rfl)
  refine ⟨fd, D, fnm_at (k := 3) D sc_height_of G.sm fun A outer s H E c => ?_⟩
  exact s_cons (s_expr (m_call (x := "check_row") (F_check_row.mono (by decide)) c (by rfl) G.g_check_row D_check_row.kp kb_check_row_1 (ma_cons (m_var (i := 0) rfl (by first | exact .inl rfl | exact .inr (.inl rfl) | exact .inr (.inr rfl))) (ma_nil))))
    (s_one (s_ret (m_ix ix_seq l_ix (m_var (i := 0) rfl (by first | exact .inl rfl | exact .inr (.inl rfl) | exact .inr (.inr rfl))) (m_int) (fun _ _ => rfl))))
theorem ok__law_cell (G : FX K mg) : ∃ fd, FunD K "_law_cell" "_law_cell" (defArgs (top 20)) (defBody (top 20)) (defScope (top 20)) [] [] (He.ga K "_law_cell") fd ∧ FnM P w K mg base 1 (He.ga K "_law_cell") fd ["cells", "spot"] (r__law_cell) := by
  obtain ⟨fd, D⟩ := G.d__law_cell
  refine ⟨fd, D, fnm_at (k := 0) D sc__law_cell G.sm fun A outer s H E c => ?_⟩
  exact s_cons (s_setSub (m_op op_addA l_add (m_ix ix_seq l_ix (m_var (i := 1) rfl (by first | exact .inl rfl | exact .inr (.inl rfl) | exact .inr (.inr rfl))) (m_int) (fun _ _ => rfl)) (m_int)) (m_var (i := 1) rfl (by first | exact .inl rfl | exact .inr (.inl rfl) | exact .inr (.inr rfl))) (m_int))
    (s_cons (s_set (i := 2) c.nd rfl (by first | exact .inl rfl | exact .inr rfl) (m_ix ix_seq l_ix (m_var (i := 1) rfl (by first | exact .inl rfl | exact .inr (.inl rfl) | exact .inr (.inr rfl))) (m_int) (fun _ _ => rfl)) (.inl rfl))
    (s_cons (s_set (i := 3) c.nd rfl (by first | exact .inl rfl | exact .inr rfl) (m_op op_addA l_add (m_op op_mulA l_mul (m_op op_mulA l_mul (m_int) (m_var (i := 2) rfl (by first | exact .inl rfl | exact .inr (.inl rfl) | exact .inr (.inr rfl)))) (m_var (i := 2) rfl (by first | exact .inl rfl | exact .inr (.inl rfl) | exact .inr (.inr rfl)))) (m_op op_mulA l_mul (m_int) (m_var (i := 2) rfl (by first | exact .inl rfl | exact .inr (.inl rfl) | exact .inr (.inr rfl))))) (.inl rfl))
    (s_cons (s_if (t_w (w_and (t_cmp op_gt l_gt (m_fnB (x := "len") call_len l_len rfl G.z_len PyProof.Rows.Boot.«len» (ma_cons (m_var (i := 0) rfl (by first | exact .inl rfl | exact .inr (.inl rfl) | exact .inr (.inr rfl))) (ma_nil))) (m_int) (nomark _)) (w_and (t_cmp op_ge l_ge (m_ix ix_seq l_ix (m_var (i := 0) rfl (by first | exact .inl rfl | exact .inr (.inl rfl) | exact .inr (.inr rfl))) (m_op op_modN l_mod (m_var (i := 2) rfl (by first | exact .inl rfl | exact .inr (.inl rfl) | exact .inr (.inr rfl))) (m_fnB (x := "len") call_len l_len rfl G.z_len PyProof.Rows.Boot.«len» (ma_cons (m_var (i := 0) rfl (by first | exact .inl rfl | exact .inr (.inl rfl) | exact .inr (.inr rfl))) (ma_nil)))) (fun _ _ => rfl)) (m_op op_powA l_pow (m_int) (m_int)) (nomark _)) (w_and1 (t_cmp op_lt l_lt (m_op op_fdivA l_fdiv (m_var (i := 2) rfl (by first | exact .inl rfl | exact .inr (.inl rfl) | exact .inr (.inr rfl))) (m_fnB (x := "len") call_len l_len rfl G.z_len PyProof.Rows.Boot.«len» (ma_cons (m_var (i := 0) rfl (by first | exact .inl rfl | exact .inr (.inl rfl) | exact .inr (.inr rfl))) (ma_nil)))) (m_int) (nomark _))))))
     (s_cons (s_set (i := 4) c.nd rfl (by first | exact .inl rfl | exact .inr rfl) (m_ix ix_seq l_ix (m_var (i := 0) rfl (by first | exact .inl rfl | exact .inr (.inl rfl) | exact .inr (.inr rfl))) (m_op op_modN l_mod (m_var (i := 2) rfl (by first | exact .inl rfl | exact .inr (.inl rfl) | exact .inr (.inr rfl))) (m_fnB (x := "len") call_len l_len rfl G.z_len PyProof.Rows.Boot.«len» (ma_cons (m_var (i := 0) rfl (by first | exact .inl rfl | exact .inr (.inl rfl) | exact .inr (.inr rfl))) (ma_nil)))) (fun _ _ => rfl)) (.inl rfl))
     (s_cons (s_for c (i_rng1 rfl G.z_range (ma_cons (m_op op_fdivA l_fdiv (m_var (i := 2) rfl (by first | exact .inl rfl | exact .inr (.inl rfl) | exact .inr (.inr rfl))) (m_fnB (x := "len") call_len l_len rfl G.z_len PyProof.Rows.Boot.«len» (ma_cons (m_var (i := 0) rfl (by first | exact .inl rfl | exact .inr (.inl rfl) | exact .inr (.inr rfl))) (ma_nil)))) (ma_nil))) (g_name c.nd (i := 5) rfl (by first | exact .inl rfl | exact .inr rfl) (.inl rfl))
      (s_one (s_set (i := 4) c.nd rfl (by first | exact .inl rfl | exact .inr rfl) (m_op op_fdivA l_fdiv (m_var (i := 4) rfl (by first | exact .inl rfl | exact .inr (.inl rfl) | exact .inr (.inr rfl))) (m_int)) (.inl rfl))))
     (s_one (s_if (t_cmp op_gt l_gt (m_var (i := 4) rfl (by first | exact .inl rfl | exact .inr (.inl rfl) | exact .inr (.inr rfl))) (m_int) (nomark _))
      (s_one (s_ret (m_op op_modN l_mod (m_var (i := 4) rfl (by first | exact .inl rfl | exact .inr (.inl rfl) | exact .inr (.inr rfl))) (m_int))))
      (s_nil)))))
     (s_nil))
    (s_cons (s_if (t_cmp op_gt l_gt (m_fnB (x := "len") call_len l_len rfl G.z_len PyProof.Rows.Boot.«len» (ma_cons (m_var (i := 0) rfl (by first | exact .inl rfl | exact .inr (.inl rfl) | exact .inr (.inr rfl))) (ma_nil))) (m_int) (nomark _))
     (s_one (s_set (i := 3) c.nd rfl (by first | exact .inl rfl | exact .inr rfl) (m_op op_addA l_add (m_var (i := 3) rfl (by first | exact .inl rfl | exact .inr (.inl rfl) | exact .inr (.inr rfl))) (m_op op_mulA l_mul (m_op op_modN l_mod (m_ix ix_seq l_ix (m_var (i := 0) rfl (by first | exact .inl rfl | exact .inr (.inl rfl) | exact .inr (.inr rfl))) (m_op op_modN l_mod (m_var (i := 2) rfl (by first | exact .inl rfl | exact .inr (.inl rfl) | exact .inr (.inr rfl))) (m_fnB (x := "len") call_len l_len rfl G.z_len PyProof.Rows.Boot.«len» (ma_cons (m_var (i := 0) rfl (by first | exact .inl rfl | exact .inr (.inl rfl) | exact .inr (.inr rfl))) (ma_nil)))) (fun _ _ => rfl)) (m_int)) (m_op op_addA l_add (m_int) (m_op op_fdivA l_fdiv (m_var (i := 2) rfl (by first | exact .inl rfl | exact .inr (.inl rfl) | exact .inr (.inr rfl))) (m_fnB (x := "len") call_len l_len rfl G.z_len PyProof.Rows.Boot.«len» (ma_cons (m_var (i := 0) rfl (by first | exact .inl rfl | exact .inr (.inl rfl) | exact .inr (.inr rfl))) (ma_nil))))))) (.inl rfl)))
     (s_nil))
    (s_one (s_ret (m_op op_fdivA l_fdiv (m_op op_modN l_mod (m_op op_powA l_pow (m_op op_modN l_mod (m_var (i := 3) rfl (by first | exact .inl rfl | exact .inr (.inl rfl) | exact .inr (.inr rfl))) (m_int)) (m_int)) (m_int)) (m_int))))))))
theorem told_ok {X : Cx} {k : Nat} {cdv : Value} (sm : ∃ o, X.K.lookup sysModules = some o) (G : FX X.K X.mg) : ToldM X ["deed", "error", "found", "e", "kinds", "bases", "at", "words"] "_law_told" (defScope (top 21)) (He.ga X.K "_law_told") cdv (defBody (top 21)) "deed" k r__law_told := by
  intro f c' q σ bs ms s H tl hr hact
  have c := cm_told (X := X) sm sc__law_told.nd hr
  refine ⟨w__law_told (.lam f c' q σ bs ms) tl, ?_, fun h Q z => z _⟩
  exact s_cons (s_par (i := 1) (j := 2) c.calm c.nd rfl rfl (by decide) rfl rfl (ma_cons (m_non) (ma_cons (m_lst (ma_nil)) (ma_nil))) rfl)
    (s_cons (s_tryT (i := 3) (n := "e") (cs := xcs) (catches := xcat) (wb := w__law_told_1a_0 (.lam f c' q σ bs ms) tl) (ws := w__law_told_1b_0 (.lam f c' q σ bs ms) tl) G.x_catch (test_two (x := "StoneError") (y := "WalkError") ⟨rfl, rfl, .inl G.g_StoneError⟩ ⟨rfl, rfl, .inl G.g_WalkError⟩) c rfl rfl rfl rfl rfl (fun W' pn xe c1 =>
     s_one (s_expr (m_bm PySem.F.slot_list_append PySem.F.type_list_append mt_append l_append (m_var (i := 2) rfl (by first | exact .inl rfl | exact .inr (.inl rfl) | exact .inr (.inr rfl))) (ma_cons (hact _ _ _ _ _ c1.tk) (ma_nil)))))
     (fun a pn => s_one (s_set (i := 1) c.nd rfl (by first | exact .inl rfl | exact .inr rfl) (m_var (i := 3) rfl (by first | exact .inl rfl | exact .inr (.inl rfl) | exact .inr (.inr rfl))) (.inl rfl))))
    (s_cons (s_if (t_cmp op_isN l_is (m_var (i := 1) rfl (by first | exact .inl rfl | exact .inr (.inl rfl) | exact .inr (.inr rfl))) (m_non) (nomark _))
     (s_one (s_ret (m_var (i := 2) rfl (by first | exact .inl rfl | exact .inr (.inl rfl) | exact .inr (.inr rfl)))))
     (s_nil))
    (s_cons (s_set (i := 4) c.nd rfl (by first | exact .inl rfl | exact .inr rfl) (m_lst (ma_cons (m_fnB (x := "isinstance") call_isiA (l_isi G.xtI_ok) rfl G.z_isinstance PyProof.Rows.Boot.«isinstance» (ma_cons (m_var (i := 1) rfl (by first | exact .inl rfl | exact .inr (.inl rfl) | exact .inr (.inr rfl))) (ma_cons (m_cls (x := "InvalidPlace") rfl G.g_InvalidPlace) (ma_nil)))) (ma_cons (m_fnB (x := "isinstance") call_isiA (l_isi G.xtI_ok) rfl G.z_isinstance PyProof.Rows.Boot.«isinstance» (ma_cons (m_var (i := 1) rfl (by first | exact .inl rfl | exact .inr (.inl rfl) | exact .inr (.inr rfl))) (ma_cons (m_cls (x := "InvalidDistance") rfl G.g_InvalidDistance) (ma_nil)))) (ma_nil)))) (.inl rfl))
    (s_cons (s_set (i := 4) c.nd rfl (by first | exact .inl rfl | exact .inr rfl) (m_op op_addA l_add (m_var (i := 4) rfl (by first | exact .inl rfl | exact .inr (.inl rfl) | exact .inr (.inr rfl))) (m_lst (ma_cons (m_fnB (x := "isinstance") call_isiA (l_isi G.xtI_ok) rfl G.z_isinstance PyProof.Rows.Boot.«isinstance» (ma_cons (m_var (i := 1) rfl (by first | exact .inl rfl | exact .inr (.inl rfl) | exact .inr (.inr rfl))) (ma_cons (m_cls (x := "InvalidBag") rfl G.g_InvalidBag) (ma_nil)))) (ma_cons (m_fnB (x := "isinstance") call_isiA (l_isi G.xtI_ok) rfl G.z_isinstance PyProof.Rows.Boot.«isinstance» (ma_cons (m_var (i := 1) rfl (by first | exact .inl rfl | exact .inr (.inl rfl) | exact .inr (.inr rfl))) (ma_cons (m_cls (x := "InvalidRow") rfl G.g_InvalidRow) (ma_nil)))) (ma_nil))))) (.inl rfl))
    (s_cons (s_set (i := 4) c.nd rfl (by first | exact .inl rfl | exact .inr rfl) (m_op op_addA l_add (m_var (i := 4) rfl (by first | exact .inl rfl | exact .inr (.inl rfl) | exact .inr (.inr rfl))) (m_lst (ma_cons (m_fnB (x := "isinstance") call_isiA (l_isi G.xtI_ok) rfl G.z_isinstance PyProof.Rows.Boot.«isinstance» (ma_cons (m_var (i := 1) rfl (by first | exact .inl rfl | exact .inr (.inl rfl) | exact .inr (.inr rfl))) (ma_cons (m_cls (x := "InvalidNumber") rfl G.g_InvalidNumber) (ma_nil)))) (ma_cons (m_fnB (x := "isinstance") call_isiA (l_isi G.xtI_ok) rfl G.z_isinstance PyProof.Rows.Boot.«isinstance» (ma_cons (m_var (i := 1) rfl (by first | exact .inl rfl | exact .inr (.inl rfl) | exact .inr (.inr rfl))) (ma_cons (m_cls (x := "NoStone") rfl G.g_NoStone) (ma_nil)))) (ma_nil))))) (.inl rfl))
    (s_cons (s_set (i := 4) c.nd rfl (by first | exact .inl rfl | exact .inr rfl) (m_op op_addA l_add (m_var (i := 4) rfl (by first | exact .inl rfl | exact .inr (.inl rfl) | exact .inr (.inr rfl))) (m_lst (ma_cons (m_fnB (x := "isinstance") call_isiA (l_isi G.xtI_ok) rfl G.z_isinstance PyProof.Rows.Boot.«isinstance» (ma_cons (m_var (i := 1) rfl (by first | exact .inl rfl | exact .inr (.inl rfl) | exact .inr (.inr rfl))) (ma_cons (m_cls (x := "TooManyStones") rfl G.g_TooManyStones) (ma_nil)))) (ma_cons (m_fnB (x := "isinstance") call_isiA (l_isi G.xtI_ok) rfl G.z_isinstance PyProof.Rows.Boot.«isinstance» (ma_cons (m_var (i := 1) rfl (by first | exact .inl rfl | exact .inr (.inl rfl) | exact .inr (.inr rfl))) (ma_cons (m_cls (x := "OutOfBounds") rfl G.g_OutOfBounds) (ma_nil)))) (ma_nil))))) (.inl rfl))
    (s_cons (s_set (i := 5) c.nd rfl (by first | exact .inl rfl | exact .inr rfl) (m_lst (ma_cons (m_fnB (x := "isinstance") call_isiA (l_isi G.xtI_ok) rfl G.z_isinstance PyProof.Rows.Boot.«isinstance» (ma_cons (m_var (i := 1) rfl (by first | exact .inl rfl | exact .inr (.inl rfl) | exact .inr (.inr rfl))) (ma_cons (m_cls (x := "StoneError") rfl G.g_StoneError) (ma_nil)))) (ma_cons (m_fnB (x := "isinstance") call_isiA (l_isi G.xtI_ok) rfl G.z_isinstance PyProof.Rows.Boot.«isinstance» (ma_cons (m_var (i := 1) rfl (by first | exact .inl rfl | exact .inr (.inl rfl) | exact .inr (.inr rfl))) (ma_cons (m_ty (x := "ValueError") rfl G.z_ValueError PyProof.Rows.Boot.«ValueError») (ma_nil)))) (ma_nil)))) (.inl rfl))
    (s_cons (s_set (i := 5) c.nd rfl (by first | exact .inl rfl | exact .inr rfl) (m_op op_addA l_add (m_var (i := 5) rfl (by first | exact .inl rfl | exact .inr (.inl rfl) | exact .inr (.inr rfl))) (m_lst (ma_cons (m_fnB (x := "isinstance") call_isiA (l_isi G.xtI_ok) rfl G.z_isinstance PyProof.Rows.Boot.«isinstance» (ma_cons (m_var (i := 1) rfl (by first | exact .inl rfl | exact .inr (.inl rfl) | exact .inr (.inr rfl))) (ma_cons (m_cls (x := "WalkError") rfl G.g_WalkError) (ma_nil)))) (ma_cons (m_fnB (x := "isinstance") call_isiA (l_isi G.xtI_ok) rfl G.z_isinstance PyProof.Rows.Boot.«isinstance» (ma_cons (m_var (i := 1) rfl (by first | exact .inl rfl | exact .inr (.inl rfl) | exact .inr (.inr rfl))) (ma_cons (m_ty (x := "RuntimeError") rfl G.z_RuntimeError PyProof.Rows.Boot.«RuntimeError») (ma_nil)))) (ma_nil))))) (.inl rfl))
    (s_cons (s_set (i := 6) c.nd rfl (by first | exact .inl rfl | exact .inr rfl) (m_ifE (t_cmp (op_eqA c.rm.r.units) l_eq (m_bm PySem.F.slot_list_count PySem.F.type_list_count mt_countF l_count (m_var (i := 4) rfl (by first | exact .inl rfl | exact .inr (.inl rfl) | exact .inr (.inr rfl))) (ma_cons (m_bl) (ma_nil))) (m_int) (nomark _)) (m_bm PySem.F.slot_list_index PySem.F.type_list_index mt_index l_index (m_var (i := 4) rfl (by first | exact .inl rfl | exact .inr (.inl rfl) | exact .inr (.inr rfl))) (ma_cons (m_bl) (ma_nil))) (m_int)) (.inl rfl))
    (s_cons (s_if (t_w (w_or (t_cmp (op_eqA c.rm.r.units) l_eq (m_var (i := 6) rfl (by first | exact .inl rfl | exact .inr (.inl rfl) | exact .inr (.inr rfl))) (m_int) (nomark _)) (w_or1 (t_cmp (op_neA c.rm.r.units) l_ne (m_var (i := 5) rfl (by first | exact .inl rfl | exact .inr (.inl rfl) | exact .inr (.inr rfl))) (m_lst (ma_cons (m_cmp op_lt l_lt (m_var (i := 6) rfl (by first | exact .inl rfl | exact .inr (.inl rfl) | exact .inr (.inr rfl))) (m_int) (nomark _)) (ma_cons (m_cmp op_lt l_lt (m_var (i := 6) rfl (by first | exact .inl rfl | exact .inr (.inl rfl) | exact .inr (.inr rfl))) (m_int) (nomark _)) (ma_cons (m_cmp op_gt l_gt (m_var (i := 6) rfl (by first | exact .inl rfl | exact .inr (.inl rfl) | exact .inr (.inr rfl))) (m_int) (nomark _)) (ma_cons (m_cmp op_gt l_gt (m_var (i := 6) rfl (by first | exact .inl rfl | exact .inr (.inl rfl) | exact .inr (.inr rfl))) (m_int) (nomark _)) (ma_nil)))))) (nomark _)))))
     (s_one (s_ret (m_tup (ma_cons (m_str) (ma_nil)))))
     (s_nil))
    (s_cons (s_if (t_w (w_or (t_cmp (op_eqA c.rm.r.units) l_eq (m_var (i := 6) rfl (by first | exact .inl rfl | exact .inr (.inl rfl) | exact .inr (.inr rfl))) (m_int) (nomark _)) (w_or1 (t_cmp (op_eqA c.rm.r.units) l_eq (m_var (i := 6) rfl (by first | exact .inl rfl | exact .inr (.inl rfl) | exact .inr (.inr rfl))) (m_int) (nomark _)))))
     (s_one (s_ret (m_tup (ma_cons (m_ix ix_seq l_ix (m_lst (ma_cons (m_str) (ma_cons (m_str) (ma_nil)))) (m_op op_subA l_subA (m_var (i := 6) rfl (by first | exact .inl rfl | exact .inr (.inl rfl) | exact .inr (.inr rfl))) (m_int)) (fun _ _ => rfl)) (ma_cons (m_xfld G.xf_position (m_var (i := 1) rfl (by first | exact .inl rfl | exact .inr (.inl rfl) | exact .inr (.inr rfl)))) (ma_nil))))))
     (s_nil))
    (s_cons (s_if (t_cmp (op_eqA c.rm.r.units) l_eq (m_var (i := 6) rfl (by first | exact .inl rfl | exact .inr (.inl rfl) | exact .inr (.inr rfl))) (m_int) (nomark _))
     (s_one (s_ret (m_tup (ma_cons (m_str) (ma_cons (m_xfld G.xf_limit (m_var (i := 1) rfl (by first | exact .inl rfl | exact .inr (.inl rfl) | exact .inr (.inr rfl)))) (ma_nil))))))
     (s_nil))
    (s_cons (s_set (i := 7) c.nd rfl (by first | exact .inl rfl | exact .inr rfl) (m_lst (ma_cons (m_str) (ma_cons (m_str) (ma_cons (m_str) (ma_cons (m_str) (ma_cons (m_str) (ma_cons (m_str) (ma_cons (m_str) (ma_cons (m_str) (ma_nil)))))))))) (.inl rfl))
    (s_one (s_ret (m_tup (ma_cons (m_ix ix_seq l_ix (m_var (i := 7) rfl (by first | exact .inl rfl | exact .inr (.inl rfl) | exact .inr (.inr rfl))) (m_var (i := 6) rfl (by first | exact .inl rfl | exact .inr (.inl rfl) | exact .inr (.inr rfl))) (fun _ _ => rfl)) (ma_cons (m_xfld G.xf_value (m_var (i := 1) rfl (by first | exact .inl rfl | exact .inr (.inl rfl) | exact .inr (.inr rfl)))) (ma_nil)))))))))))))))))))
theorem ok__law_same (G : FX K mg) : ∃ fd, FunD K "_law_same" "_law_same" (defArgs (top 22)) (defBody (top 22)) (defScope (top 22)) [] [] (He.ga K "_law_same") fd ∧ FnM P w K mg base 1 (He.ga K "_law_same") fd ["found", "due"] (r__law_same) := by
  obtain ⟨fd, D⟩ := G.d__law_same
  refine ⟨fd, D, fnm_at (k := 0) D sc__law_same G.sm fun A outer s H E c => ?_⟩
  exact s_one (s_ret (m_cmp (op_eqA c.rm.r.units) l_eq (m_fnB (x := "repr") (call_repA c) l_rep rfl G.z_repr PyProof.Rows.Boot.«repr» (ma_cons (m_var (i := 0) rfl (by first | exact .inl rfl | exact .inr (.inl rfl) | exact .inr (.inr rfl))) (ma_nil))) (m_fnB (x := "repr") (call_repA c) l_rep rfl G.z_repr PyProof.Rows.Boot.«repr» (ma_cons (m_op op_mulA l_mul (m_lst (ma_cons (m_var (i := 1) rfl (by first | exact .inl rfl | exact .inr (.inl rfl) | exact .inr (.inr rfl))) (ma_nil))) (m_fnB (x := "len") call_len l_len rfl G.z_len PyProof.Rows.Boot.«len» (ma_cons (m_var (i := 0) rfl (by first | exact .inl rfl | exact .inr (.inl rfl) | exact .inr (.inr rfl))) (ma_nil)))) (ma_nil))) (nomark _)))
theorem ok__law_any (G : FX K mg) : ∃ fd, FunD K "_law_any" "_law_any" (defArgs (top 23)) (defBody (top 23)) (defScope (top 23)) [] [] (He.ga K "_law_any") fd ∧ FnM P w K mg base 2 (He.ga K "_law_any") fd ["cells", "spot"] (r__law_any) := by
  obtain ⟨fd, D⟩ := G.d__law_any
  obtain ⟨fd__law_cell, D__law_cell, F__law_cell⟩ := ok__law_cell (P := P) (w := w) (base := base) G
  have kb__law_cell_2 := kb_all (ps := ["cells", "spot"]) D__law_cell 2 [] [0, 1] (fun _ _ _ _ _ _ us ws h1 h2 => match us, ws, h1, h2 with | [_, _], [], _, _ => rfl)
  refine ⟨fd, D, fnm_at (k := 1) D sc__law_any G.sm fun A outer s H E c => ?_⟩
  exact s_cons (s_par (i := 2) (j := 3) c.calm c.nd rfl rfl (by decide) rfl rfl (ma_cons (m_call (x := "_law_cell") (F__law_cell.mono (by decide)) c (by rfl) G.g__law_cell D__law_cell.kp kb__law_cell_2 (ma_cons (m_var (i := 0) rfl (by first | exact .inl rfl | exact .inr (.inl rfl) | exact .inr (.inr rfl))) (ma_cons (m_var (i := 1) rfl (by first | exact .inl rfl | exact .inr (.inl rfl) | exact .inr (.inr rfl))) (ma_nil)))) (ma_cons (m_lst (ma_nil)) (ma_nil))) rfl)
    (s_cons (s_for c (i_rng1 rfl G.z_range (ma_cons (m_ix ix_seq l_ix (m_lst (ma_cons (m_op op_modN l_mod (m_op op_fdivA l_fdiv (m_var (i := 2) rfl (by first | exact .inl rfl | exact .inr (.inl rfl) | exact .inr (.inr rfl))) (m_int)) (m_int)) (ma_cons (m_op op_modN l_mod (m_op op_fdivA l_fdiv (m_var (i := 2) rfl (by first | exact .inl rfl | exact .inr (.inl rfl) | exact .inr (.inr rfl))) (m_int)) (m_int)) (ma_cons (m_int) (ma_nil))))) (m_op op_modN l_mod (m_var (i := 2) rfl (by first | exact .inl rfl | exact .inr (.inl rfl) | exact .inr (.inr rfl))) (m_int)) (fun _ _ => rfl)) (ma_nil))) (g_name c.nd (i := 4) rfl (by first | exact .inl rfl | exact .inr rfl) (.inl rfl))
     (s_cons (s_set (i := 5) c.nd rfl (by first | exact .inl rfl | exact .inr rfl) (m_call (x := "_law_cell") (F__law_cell.mono (by decide)) c (by rfl) G.g__law_cell D__law_cell.kp kb__law_cell_2 (ma_cons (m_var (i := 0) rfl (by first | exact .inl rfl | exact .inr (.inl rfl) | exact .inr (.inr rfl))) (ma_cons (m_var (i := 1) rfl (by first | exact .inl rfl | exact .inr (.inl rfl) | exact .inr (.inr rfl))) (ma_nil)))) (.inl rfl))
     (s_one (s_expr (m_bm PySem.F.slot_list_append PySem.F.type_list_append mt_append l_append (m_var (i := 3) rfl (by first | exact .inl rfl | exact .inr (.inl rfl) | exact .inr (.inr rfl))) (ma_cons (m_ix ix_seq l_ix (m_lst (ma_cons (m_op op_subA l_subA (m_op op_modN l_mod (m_var (i := 5) rfl (by first | exact .inl rfl | exact .inr (.inl rfl) | exact .inr (.inr rfl))) (m_int)) (m_int)) (ma_cons (m_int) (ma_cons (m_op op_subA l_subA (m_op op_mulA l_mul (m_op op_mulA l_mul (m_var (i := 5) rfl (by first | exact .inl rfl | exact .inr (.inl rfl) | exact .inr (.inr rfl))) (m_var (i := 5) rfl (by first | exact .inl rfl | exact .inr (.inl rfl) | exact .inr (.inr rfl)))) (m_var (i := 5) rfl (by first | exact .inl rfl | exact .inr (.inl rfl) | exact .inr (.inr rfl)))) (m_op op_powA l_pow (m_int) (m_int))) (ma_cons (m_op op_subA l_subA (m_int) (m_var (i := 5) rfl (by first | exact .inl rfl | exact .inr (.inl rfl) | exact .inr (.inr rfl)))) (ma_nil)))))) (m_op op_modN l_mod (m_op op_fdivA l_fdiv (m_var (i := 5) rfl (by first | exact .inl rfl | exact .inr (.inl rfl) | exact .inr (.inr rfl))) (m_int)) (m_int)) (fun _ _ => rfl)) (ma_nil)))))))
    (s_one (s_ret (m_fnT (x := "tuple") call_tuple_of l_tuple rfl G.z_tuple PyProof.Rows.Boot.«tuple» (ma_cons (m_op op_addA l_add (m_var (i := 3) rfl (by first | exact .inl rfl | exact .inr (.inl rfl) | exact .inr (.inr rfl))) (m_lst (ma_cons (m_int) (ma_nil)))) (ma_nil))))))
theorem ok__law_wrong (G : FX K mg) : ∃ fd, FunD K "_law_wrong" "_law_wrong" (defArgs (top 24)) (defBody (top 24)) (defScope (top 24)) [] [] (He.ga K "_law_wrong") fd ∧ FnM P w K mg base 1 (He.ga K "_law_wrong") fd ["thing"] (r__law_wrong) := by
  obtain ⟨fd, D⟩ := G.d__law_wrong
  refine ⟨fd, D, fnm_at (k := 0) D sc__law_wrong G.sm fun A outer s H E c => ?_⟩
  exact s_cons (s_if (t_w (w_or (t_not (t_val (m_fnB (x := "isinstance") call_isiA (l_isi xt0_ok) rfl G.z_isinstance PyProof.Rows.Boot.«isinstance» (ma_cons (m_var (i := 0) rfl (by first | exact .inl rfl | exact .inr (.inl rfl) | exact .inr (.inr rfl))) (ma_cons (m_ty (x := "tuple") rfl G.z_tuple PyProof.Rows.Boot.«tuple») (ma_nil)))))) (w_or (t_cmp op_lt l_lt (m_fnB (x := "len") call_len l_len rfl G.z_len PyProof.Rows.Boot.«len» (ma_cons (m_var (i := 0) rfl (by first | exact .inl rfl | exact .inr (.inl rfl) | exact .inr (.inr rfl))) (ma_nil))) (m_int) (nomark _)) (w_or1 (t_cmp op_gt l_gt (m_fnB (x := "len") call_len l_len rfl G.z_len PyProof.Rows.Boot.«len» (ma_cons (m_var (i := 0) rfl (by first | exact .inl rfl | exact .inr (.inl rfl) | exact .inr (.inr rfl))) (ma_nil))) (m_int) (nomark _))))))
     (s_one (s_ret (m_lst (ma_cons (m_non) (ma_nil)))))
     (s_nil))
    (s_cons (s_for c (i_rng1 rfl G.z_range (ma_cons (m_fnB (x := "len") call_len l_len rfl G.z_len PyProof.Rows.Boot.«len» (ma_cons (m_var (i := 0) rfl (by first | exact .inl rfl | exact .inr (.inl rfl) | exact .inr (.inr rfl))) (ma_nil))) (ma_nil))) (g_name c.nd (i := 1) rfl (by first | exact .inl rfl | exact .inr rfl) (.inl rfl))
     (s_one (s_if (t_w (w_or (t_not (t_val (m_fnB (x := "isinstance") call_isiA (l_isi xt0_ok) rfl G.z_isinstance PyProof.Rows.Boot.«isinstance» (ma_cons (m_ix ix_seq l_ix (m_var (i := 0) rfl (by first | exact .inl rfl | exact .inr (.inl rfl) | exact .inr (.inr rfl))) (m_var (i := 1) rfl (by first | exact .inl rfl | exact .inr (.inl rfl) | exact .inr (.inr rfl))) (fun _ _ => rfl)) (ma_cons (m_ty (x := "int") rfl G.z_int PyProof.Rows.Boot.«int») (ma_nil)))))) (w_or1 (t_val (m_fnB (x := "isinstance") call_isiA (l_isi xt0_ok) rfl G.z_isinstance PyProof.Rows.Boot.«isinstance» (ma_cons (m_ix ix_seq l_ix (m_var (i := 0) rfl (by first | exact .inl rfl | exact .inr (.inl rfl) | exact .inr (.inr rfl))) (m_var (i := 1) rfl (by first | exact .inl rfl | exact .inr (.inl rfl) | exact .inr (.inr rfl))) (fun _ _ => rfl)) (ma_cons (m_ty (x := "bool") rfl G.z_bool PyProof.Rows.Boot.«bool») (ma_nil))))))))
      (s_one (s_ret (m_lst (ma_cons (m_var (i := 1) rfl (by first | exact .inl rfl | exact .inr (.inl rfl) | exact .inr (.inr rfl))) (ma_nil)))))
      (s_nil))))
    (s_one (s_ret (m_ifE (t_cmp (op_eqA c.rm.r.units) l_eq (m_ix ix_seq l_ix (m_var (i := 0) rfl (by first | exact .inl rfl | exact .inr (.inl rfl) | exact .inr (.inr rfl))) (m_op op_subA l_subA (m_fnB (x := "len") call_len l_len rfl G.z_len PyProof.Rows.Boot.«len» (ma_cons (m_var (i := 0) rfl (by first | exact .inl rfl | exact .inr (.inl rfl) | exact .inr (.inr rfl))) (ma_nil))) (m_int)) (fun _ _ => rfl)) (m_int) (nomark _)) (m_lst (ma_nil)) (m_lst (ma_cons (m_str) (ma_nil)))))))
theorem ok__law_bent (G : FX K mg) : ∃ fd, FunD K "_law_bent" "_law_bent" (defArgs (top 25)) (defBody (top 25)) (defScope (top 25)) [] [] (He.ga K "_law_bent") fd ∧ FnM P w K mg base 2 (He.ga K "_law_bent") fd ["cells", "spot", "thing"] (r__law_bent) := by
  obtain ⟨fd, D⟩ := G.d__law_bent
  obtain ⟨fd__law_cell, D__law_cell, F__law_cell⟩ := ok__law_cell (P := P) (w := w) (base := base) G
  have kb__law_cell_2 := kb_all (ps := ["cells", "spot"]) D__law_cell 2 [] [0, 1] (fun _ _ _ _ _ _ us ws h1 h2 => match us, ws, h1, h2 with | [_, _], [], _, _ => rfl)
  refine ⟨fd, D, fnm_at (k := 1) D sc__law_bent G.sm fun A outer s H E c => ?_⟩
  exact s_cons (s_par (i := 3) (j := 4) c.calm c.nd rfl rfl (by decide) rfl rfl (ma_cons (m_call (x := "_law_cell") (F__law_cell.mono (by decide)) c (by rfl) G.g__law_cell D__law_cell.kp kb__law_cell_2 (ma_cons (m_var (i := 0) rfl (by first | exact .inl rfl | exact .inr (.inl rfl) | exact .inr (.inr rfl))) (ma_cons (m_var (i := 1) rfl (by first | exact .inl rfl | exact .inr (.inl rfl) | exact .inr (.inr rfl))) (ma_nil)))) (ma_cons (m_call (x := "_law_cell") (F__law_cell.mono (by decide)) c (by rfl) G.g__law_cell D__law_cell.kp kb__law_cell_2 (ma_cons (m_var (i := 0) rfl (by first | exact .inl rfl | exact .inr (.inl rfl) | exact .inr (.inr rfl))) (ma_cons (m_var (i := 1) rfl (by first | exact .inl rfl | exact .inr (.inl rfl) | exact .inr (.inr rfl))) (ma_nil)))) (ma_nil))) rfl)
    (s_cons (s_if (t_cmp (op_eqN c.rm.r.units) l_eqN (m_var (i := 2) rfl (by first | exact .inl rfl | exact .inr (.inl rfl) | exact .inr (.inr rfl))) (m_tup (ma_nil)) (nomark _))
     (s_one (s_ret (m_ix ix_seq l_ix (m_lst (ma_cons (m_tup (ma_cons (m_non) (ma_nil))) (ma_cons (m_lst (ma_nil)) (ma_cons (m_tup (ma_cons (m_bl) (ma_nil))) (ma_cons (m_tup (ma_cons (m_int) (ma_nil))) (ma_cons (m_tup (ma_cons (m_int) (ma_nil))) (ma_cons (m_non) (ma_cons (m_str) (ma_nil))))))))) (m_op op_modN l_mod (m_var (i := 3) rfl (by first | exact .inl rfl | exact .inr (.inl rfl) | exact .inr (.inr rfl))) (m_int)) (fun _ _ => rfl))))
     (s_nil))
    (s_cons (s_set (i := 5) c.nd rfl (by first | exact .inl rfl | exact .inr rfl) (m_ix ix_seq l_ix (m_lst (ma_cons (m_op op_modN l_mod (m_op op_fdivA l_fdiv (m_var (i := 4) rfl (by first | exact .inl rfl | exact .inr (.inl rfl) | exact .inr (.inr rfl))) (m_int)) (m_fnB (x := "len") call_len l_len rfl G.z_len PyProof.Rows.Boot.«len» (ma_cons (m_var (i := 2) rfl (by first | exact .inl rfl | exact .inr (.inl rfl) | exact .inr (.inr rfl))) (ma_nil)))) (ma_cons (m_op op_subA l_subA (m_fnB (x := "len") call_len l_len rfl G.z_len PyProof.Rows.Boot.«len» (ma_cons (m_var (i := 2) rfl (by first | exact .inl rfl | exact .inr (.inl rfl) | exact .inr (.inr rfl))) (ma_nil))) (m_int)) (ma_nil)))) (m_op op_modN l_mod (m_var (i := 4) rfl (by first | exact .inl rfl | exact .inr (.inl rfl) | exact .inr (.inr rfl))) (m_int)) (fun _ _ => rfl)) (.inl rfl))
    (s_cons (s_set (i := 6) c.nd rfl (by first | exact .inl rfl | exact .inr rfl) (m_ix ix_seq l_ix (m_lst (ma_cons (m_non) (ma_cons (m_bl) (ma_cons (m_str) (ma_cons (m_tup (ma_cons (m_int) (ma_nil))) (ma_cons (m_lst (ma_nil)) (ma_cons (m_int) (ma_cons (m_int) (ma_cons (m_op op_subA l_subA (m_int) (m_int)) (ma_cons (m_dct0) (ma_nil))))))))))) (m_op op_modN l_mod (m_op op_fdivA l_fdiv (m_var (i := 3) rfl (by first | exact .inl rfl | exact .inr (.inl rfl) | exact .inr (.inr rfl))) (m_int)) (m_int)) (fun _ _ => rfl)) (.inl rfl))
    (s_cons (s_if (t_cmp op_lt l_lt (m_op op_modN l_mod (m_var (i := 3) rfl (by first | exact .inl rfl | exact .inr (.inl rfl) | exact .inr (.inr rfl))) (m_int)) (m_int) (nomark _))
     (s_one (s_ret (m_op op_addA l_add (m_op op_addA l_add (m_slice (m_var (i := 2) rfl (by first | exact .inl rfl | exact .inr (.inl rfl) | exact .inr (.inr rfl))) (o_none) (o_some (m_var (i := 5) rfl (by first | exact .inl rfl | exact .inr (.inl rfl) | exact .inr (.inr rfl))))) (m_tup (ma_cons (m_var (i := 6) rfl (by first | exact .inl rfl | exact .inr (.inl rfl) | exact .inr (.inr rfl))) (ma_nil)))) (m_slice (m_var (i := 2) rfl (by first | exact .inl rfl | exact .inr (.inl rfl) | exact .inr (.inr rfl))) (o_some (m_op op_addA l_add (m_var (i := 5) rfl (by first | exact .inl rfl | exact .inr (.inl rfl) | exact .inr (.inr rfl))) (m_int))) (o_none)))))
     (s_nil))
    (s_cons (s_if (t_cmp (op_eqA c.rm.r.units) l_eq (m_op op_modN l_mod (m_var (i := 3) rfl (by first | exact .inl rfl | exact .inr (.inl rfl) | exact .inr (.inr rfl))) (m_int)) (m_int) (nomark _))
     (s_one (s_ret (m_rev (m_var (i := 2) rfl (by first | exact .inl rfl | exact .inr (.inl rfl) | exact .inr (.inr rfl))))))
     (s_nil))
    (s_cons (s_if (t_cmp (op_eqA c.rm.r.units) l_eq (m_op op_modN l_mod (m_var (i := 3) rfl (by first | exact .inl rfl | exact .inr (.inl rfl) | exact .inr (.inr rfl))) (m_int)) (m_int) (nomark _))
     (s_one (s_ret (m_op op_addA l_add (m_op op_addA l_add (m_slice (m_var (i := 2) rfl (by first | exact .inl rfl | exact .inr (.inl rfl) | exact .inr (.inr rfl))) (o_none) (o_some (m_var (i := 5) rfl (by first | exact .inl rfl | exact .inr (.inl rfl) | exact .inr (.inr rfl))))) (m_slice (m_var (i := 2) rfl (by first | exact .inl rfl | exact .inr (.inl rfl) | exact .inr (.inr rfl))) (o_some (m_var (i := 5) rfl (by first | exact .inl rfl | exact .inr (.inl rfl) | exact .inr (.inr rfl)))) (o_some (m_op op_addA l_add (m_var (i := 5) rfl (by first | exact .inl rfl | exact .inr (.inl rfl) | exact .inr (.inr rfl))) (m_int))))) (m_slice (m_var (i := 2) rfl (by first | exact .inl rfl | exact .inr (.inl rfl) | exact .inr (.inr rfl))) (o_some (m_var (i := 5) rfl (by first | exact .inl rfl | exact .inr (.inl rfl) | exact .inr (.inr rfl)))) (o_none)))))
     (s_nil))
    (s_one (s_ret (m_ix ix_seq l_ix (m_lst (ma_cons (m_op op_addA l_add (m_slice (m_var (i := 2) rfl (by first | exact .inl rfl | exact .inr (.inl rfl) | exact .inr (.inr rfl))) (o_none) (o_some (m_var (i := 5) rfl (by first | exact .inl rfl | exact .inr (.inl rfl) | exact .inr (.inr rfl))))) (m_slice (m_var (i := 2) rfl (by first | exact .inl rfl | exact .inr (.inl rfl) | exact .inr (.inr rfl))) (o_some (m_op op_addA l_add (m_var (i := 5) rfl (by first | exact .inl rfl | exact .inr (.inl rfl) | exact .inr (.inr rfl))) (m_int))) (o_none))) (ma_cons (m_fnT (x := "list") call_list_of l_list rfl G.z_list PyProof.Rows.Boot.«list» (ma_cons (m_var (i := 2) rfl (by first | exact .inl rfl | exact .inr (.inl rfl) | exact .inr (.inr rfl))) (ma_nil))) (ma_nil)))) (m_op op_modN l_mod (m_op op_fdivA l_fdiv (m_var (i := 3) rfl (by first | exact .inl rfl | exact .inr (.inl rfl) | exact .inr (.inr rfl))) (m_int)) (m_int)) (fun _ _ => rfl))))))))))
theorem ok__law_right (G : FX K mg) (TB : ∀ x ∈ lamDefs, LamX.TabB base mg (He.cT K (x, none)).1 (He.cT K (x, none)).2) : ∃ fd, FunD K "_law_right" "_law_right" (defArgs (top 26)) (defBody (top 26)) (defScope (top 26)) [] [] (He.ga K "_law_right") fd ∧ FnM P w K mg base 7 (He.ga K "_law_right") fd ["thing"] (r__law_right (fun x => (He.cT K (x, none)).2)) := by
  obtain ⟨fd, D⟩ := G.d__law_right
  obtain ⟨fd__law_same, D__law_same, F__law_same⟩ := ok__law_same (P := P) (w := w) (base := base) G
  obtain ⟨fd__law_told, D__law_told⟩ := G.d__law_told
  obtain ⟨fd__law_wrong, D__law_wrong, F__law_wrong⟩ := ok__law_wrong (P := P) (w := w) (base := base) G
  obtain ⟨fd_check_row, D_check_row, F_check_row⟩ := ok_check_row (P := P) (w := w) (base := base) G
  obtain ⟨fd_height_of, D_height_of, F_height_of⟩ := ok_height_of (P := P) (w := w) (base := base) G
  obtain ⟨fd_is_row, D_is_row, F_is_row⟩ := ok_is_row (P := P) (w := w) (base := base) G
  obtain ⟨fd_size_of, D_size_of, F_size_of⟩ := ok_size_of (P := P) (w := w) (base := base) G
  have kb__law_wrong_1 := kb_all (ps := ["thing"]) D__law_wrong 1 [] [0] (fun _ _ _ _ _ _ us ws h1 h2 => match us, ws, h1, h2 with | [_], [], _, _ => rfl)
  have kb__law_same_2 := kb_all (ps := ["found", "due"]) D__law_same 2 [] [0, 1] (fun _ _ _ _ _ _ us ws h1 h2 => match us, ws, h1, h2 with | [_, _], [], _, _ => rfl)
  have kb_is_row_0_value := kb_all (ps := ["value"]) D_is_row 0 ["value"] [0] (fun _ _ _ _ _ _ us ws h1 h2 => match us, ws, h1, h2 with | [], [_], _, _ => rfl)
  have kb_is_row_1 := kb_all (ps := ["value"]) D_is_row 1 [] [0] (fun _ _ _ _ _ _ us ws h1 h2 => match us, ws, h1, h2 with | [_], [], _, _ => rfl)
  have kb_check_row_1 := kb_all (ps := ["value"]) D_check_row 1 [] [0] (fun _ _ _ _ _ _ us ws h1 h2 => match us, ws, h1, h2 with | [_], [], _, _ => rfl)
  have kb_check_row_0_value := kb_all (ps := ["value"]) D_check_row 0 ["value"] [0] (fun _ _ _ _ _ _ us ws h1 h2 => match us, ws, h1, h2 with | [], [_], _, _ => rfl)
  have kb_size_of_1 := kb_all (ps := ["row"]) D_size_of 1 [] [0] (fun _ _ _ _ _ _ us ws h1 h2 => match us, ws, h1, h2 with | [_], [], _, _ => rfl)
  have kb_size_of_0_row := kb_all (ps := ["row"]) D_size_of 0 ["row"] [0] (fun _ _ _ _ _ _ us ws h1 h2 => match us, ws, h1, h2 with | [], [_], _, _ => rfl)
  have kb_height_of_1 := kb_all (ps := ["row"]) D_height_of 1 [] [0] (fun _ _ _ _ _ _ us ws h1 h2 => match us, ws, h1, h2 with | [_], [], _, _ => rfl)
  have kb_height_of_0_row := kb_all (ps := ["row"]) D_height_of 0 ["row"] [0] (fun _ _ _ _ _ _ us ws h1 h2 => match us, ws, h1, h2 with | [], [_], _, _ => rfl)
  refine ⟨fd, D, fnm_at (k := 6) D sc__law_right G.sm fun A outer s H E c => ?_⟩
  exact s_cons (s_par (i := 1) (j := 2) c.calm c.nd rfl rfl (by decide) rfl rfl (ma_cons (m_call (x := "_law_wrong") (F__law_wrong.mono (by decide)) c (by rfl) G.g__law_wrong D__law_wrong.kp kb__law_wrong_1 (ma_cons (m_var (i := 0) rfl (by first | exact .inl rfl | exact .inr (.inl rfl) | exact .inr (.inr rfl))) (ma_nil))) (ma_cons (m_fnB (x := "repr") (call_repA c) l_rep rfl G.z_repr PyProof.Rows.Boot.«repr» (ma_cons (m_var (i := 0) rfl (by first | exact .inl rfl | exact .inr (.inl rfl) | exact .inr (.inr rfl))) (ma_nil))) (ma_nil))) rfl)
    (s_cons (s_if (t_not (t_val (m_call (x := "_law_same") (F__law_same.mono (by decide)) c (by rfl) G.g__law_same D__law_same.kp kb__law_same_2 (ma_cons (m_lst (ma_cons (m_call (x := "is_row") (F_is_row.mono (by decide)) c (by rfl) G.g_is_row D_is_row.kp kb_is_row_1 (ma_cons (m_var (i := 0) rfl (by first | exact .inl rfl | exact .inr (.inl rfl) | exact .inr (.inr rfl))) (ma_nil))) (ma_cons (m_callK0 (x := "is_row") (F_is_row.mono (by decide)) c (by rfl) G.g_is_row D_is_row.kp kb_is_row_0_value (mk_cons (m_var (i := 0) rfl (by first | exact .inl rfl | exact .inr (.inl rfl) | exact .inr (.inr rfl))) (mk_nil))) (ma_nil)))) (ma_cons (m_cmp (op_eqA c.rm.r.units) l_eq (m_var (i := 1) rfl (by first | exact .inl rfl | exact .inr (.inl rfl) | exact .inr (.inr rfl))) (m_lst (ma_nil)) (nomark _)) (ma_nil))))))
     (s_one (s_ret (m_bl)))
     (s_nil))
    (s_cons (s_set (i := 3) c.nd rfl (by first | exact .inl rfl | exact .inr rfl) (m_ifE (t_cmp (op_eqA c.rm.r.units) l_eq (m_var (i := 1) rfl (by first | exact .inl rfl | exact .inr (.inl rfl) | exact .inr (.inr rfl))) (m_lst (ma_nil)) (nomark _)) (m_lst (ma_cons (m_non) (ma_nil))) (m_tup (ma_cons (m_str) (ma_cons (m_ix ix_seq l_ix (m_var (i := 1) rfl (by first | exact .inl rfl | exact .inr (.inl rfl) | exact .inr (.inr rfl))) (m_int) (fun _ _ => rfl)) (ma_nil))))) (.inl rfl))
    (s_cons (s_set (i := 4) c.nd rfl (by first | exact .inl rfl | exact .inr rfl) (m_lst (ma_cons (m_told (x := "_law_told") (a := "deed") (k := 4) c rfl G.g__law_told D__law_told (fun _ _ _ _ _ _ us hl => match us, hl with | [_], _ => rfl) sc__law_told rfl (.inl rfl) (fun cdv => told_ok c.sm G) (TB "_law_right" (by simp [lamDefs])) rfl (LamX.lamS_by (by kernel_rfl)) rfl (fun _ _ _ _ _ => rfl) (fun A outer s H E f c' cL => m_call (x := "check_row") (F_check_row.mono (by decide)) cL (by rfl) G.g_check_row D_check_row.kp kb_check_row_1 (ma_cons (m_var (i := 0) rfl (by first | exact .inl rfl | exact .inr (.inl rfl) | exact .inr (.inr rfl))) (ma_nil)))) (ma_nil))) (.inl rfl))
    (s_cons (s_expr (m_bm PySem.F.slot_list_append PySem.F.type_list_append mt_append l_append (m_var (i := 4) rfl (by first | exact .inl rfl | exact .inr (.inl rfl) | exact .inr (.inr rfl))) (ma_cons (m_told (x := "_law_told") (a := "deed") (k := 4) c rfl G.g__law_told D__law_told (fun _ _ _ _ _ _ us hl => match us, hl with | [_], _ => rfl) sc__law_told rfl (.inl rfl) (fun cdv => told_ok c.sm G) (TB "_law_right" (by simp [lamDefs])) rfl (LamX.lamS_by (by kernel_rfl)) rfl (fun _ _ _ _ _ => rfl) (fun A outer s H E f c' cL => m_callK0 (x := "check_row") (F_check_row.mono (by decide)) cL (by rfl) G.g_check_row D_check_row.kp kb_check_row_0_value (mk_cons (m_var (i := 0) rfl (by first | exact .inl rfl | exact .inr (.inl rfl) | exact .inr (.inr rfl))) (mk_nil)))) (ma_nil))))
    (s_cons (s_if (t_not (t_val (m_call (x := "_law_same") (F__law_same.mono (by decide)) c (by rfl) G.g__law_same D__law_same.kp kb__law_same_2 (ma_cons (m_var (i := 4) rfl (by first | exact .inl rfl | exact .inr (.inl rfl) | exact .inr (.inr rfl))) (ma_cons (m_var (i := 3) rfl (by first | exact .inl rfl | exact .inr (.inl rfl) | exact .inr (.inr rfl))) (ma_nil))))))
     (s_one (s_ret (m_bl)))
     (s_nil))
    (s_cons (s_set (i := 3) c.nd rfl (by first | exact .inl rfl | exact .inr rfl) (m_ifE (t_cmp (op_eqA c.rm.r.units) l_eq (m_var (i := 1) rfl (by first | exact .inl rfl | exact .inr (.inl rfl) | exact .inr (.inr rfl))) (m_lst (ma_nil)) (nomark _)) (m_lst (ma_cons (m_op op_subA l_subA (m_fnB (x := "len") call_len l_len rfl G.z_len PyProof.Rows.Boot.«len» (ma_cons (m_var (i := 0) rfl (by first | exact .inl rfl | exact .inr (.inl rfl) | exact .inr (.inr rfl))) (ma_nil))) (m_int)) (ma_nil))) (m_tup (ma_cons (m_str) (ma_cons (m_ix ix_seq l_ix (m_var (i := 1) rfl (by first | exact .inl rfl | exact .inr (.inl rfl) | exact .inr (.inr rfl))) (m_int) (fun _ _ => rfl)) (ma_nil))))) (.inl rfl))
    (s_cons (s_set (i := 4) c.nd rfl (by first | exact .inl rfl | exact .inr rfl) (m_lst (ma_cons (m_told (x := "_law_told") (a := "deed") (k := 4) c rfl G.g__law_told D__law_told (fun _ _ _ _ _ _ us hl => match us, hl with | [_], _ => rfl) sc__law_told rfl (.inl rfl) (fun cdv => told_ok c.sm G) (TB "_law_right" (by simp [lamDefs])) rfl (LamX.lamS_by (by kernel_rfl)) rfl (fun _ _ _ _ _ => rfl) (fun A outer s H E f c' cL => m_call (x := "size_of") (F_size_of.mono (by decide)) cL (by rfl) G.g_size_of D_size_of.kp kb_size_of_1 (ma_cons (m_var (i := 0) rfl (by first | exact .inl rfl | exact .inr (.inl rfl) | exact .inr (.inr rfl))) (ma_nil)))) (ma_nil))) (.inl rfl))
    (s_cons (s_expr (m_bm PySem.F.slot_list_append PySem.F.type_list_append mt_append l_append (m_var (i := 4) rfl (by first | exact .inl rfl | exact .inr (.inl rfl) | exact .inr (.inr rfl))) (ma_cons (m_told (x := "_law_told") (a := "deed") (k := 4) c rfl G.g__law_told D__law_told (fun _ _ _ _ _ _ us hl => match us, hl with | [_], _ => rfl) sc__law_told rfl (.inl rfl) (fun cdv => told_ok c.sm G) (TB "_law_right" (by simp [lamDefs])) rfl (LamX.lamS_by (by kernel_rfl)) rfl (fun _ _ _ _ _ => rfl) (fun A outer s H E f c' cL => m_callK0 (x := "size_of") (F_size_of.mono (by decide)) cL (by rfl) G.g_size_of D_size_of.kp kb_size_of_0_row (mk_cons (m_var (i := 0) rfl (by first | exact .inl rfl | exact .inr (.inl rfl) | exact .inr (.inr rfl))) (mk_nil)))) (ma_nil))))
    (s_cons (s_if (t_not (t_val (m_call (x := "_law_same") (F__law_same.mono (by decide)) c (by rfl) G.g__law_same D__law_same.kp kb__law_same_2 (ma_cons (m_var (i := 4) rfl (by first | exact .inl rfl | exact .inr (.inl rfl) | exact .inr (.inr rfl))) (ma_cons (m_var (i := 3) rfl (by first | exact .inl rfl | exact .inr (.inl rfl) | exact .inr (.inr rfl))) (ma_nil))))))
     (s_one (s_ret (m_bl)))
     (s_nil))
    (s_cons (s_set (i := 3) c.nd rfl (by first | exact .inl rfl | exact .inr rfl) (m_ifE (t_cmp (op_eqA c.rm.r.units) l_eq (m_var (i := 1) rfl (by first | exact .inl rfl | exact .inr (.inl rfl) | exact .inr (.inr rfl))) (m_lst (ma_nil)) (nomark _)) (m_lst (ma_cons (m_ix ix_seq l_ix (m_var (i := 0) rfl (by first | exact .inl rfl | exact .inr (.inl rfl) | exact .inr (.inr rfl))) (m_int) (fun _ _ => rfl)) (ma_nil))) (m_tup (ma_cons (m_str) (ma_cons (m_ix ix_seq l_ix (m_var (i := 1) rfl (by first | exact .inl rfl | exact .inr (.inl rfl) | exact .inr (.inr rfl))) (m_int) (fun _ _ => rfl)) (ma_nil))))) (.inl rfl))
    (s_cons (s_set (i := 4) c.nd rfl (by first | exact .inl rfl | exact .inr rfl) (m_lst (ma_cons (m_told (x := "_law_told") (a := "deed") (k := 4) c rfl G.g__law_told D__law_told (fun _ _ _ _ _ _ us hl => match us, hl with | [_], _ => rfl) sc__law_told rfl (.inl rfl) (fun cdv => told_ok c.sm G) (TB "_law_right" (by simp [lamDefs])) rfl (LamX.lamS_by (by kernel_rfl)) rfl (fun _ _ _ _ _ => rfl) (fun A outer s H E f c' cL => m_call (x := "height_of") (F_height_of.mono (by decide)) cL (by rfl) G.g_height_of D_height_of.kp kb_height_of_1 (ma_cons (m_var (i := 0) rfl (by first | exact .inl rfl | exact .inr (.inl rfl) | exact .inr (.inr rfl))) (ma_nil)))) (ma_nil))) (.inl rfl))
    (s_cons (s_expr (m_bm PySem.F.slot_list_append PySem.F.type_list_append mt_append l_append (m_var (i := 4) rfl (by first | exact .inl rfl | exact .inr (.inl rfl) | exact .inr (.inr rfl))) (ma_cons (m_told (x := "_law_told") (a := "deed") (k := 4) c rfl G.g__law_told D__law_told (fun _ _ _ _ _ _ us hl => match us, hl with | [_], _ => rfl) sc__law_told rfl (.inl rfl) (fun cdv => told_ok c.sm G) (TB "_law_right" (by simp [lamDefs])) rfl (LamX.lamS_by (by kernel_rfl)) rfl (fun _ _ _ _ _ => rfl) (fun A outer s H E f c' cL => m_callK0 (x := "height_of") (F_height_of.mono (by decide)) cL (by rfl) G.g_height_of D_height_of.kp kb_height_of_0_row (mk_cons (m_var (i := 0) rfl (by first | exact .inl rfl | exact .inr (.inl rfl) | exact .inr (.inr rfl))) (mk_nil)))) (ma_nil))))
    (s_one (s_ret (m_and (m_call (x := "_law_same") (F__law_same.mono (by decide)) c (by rfl) G.g__law_same D__law_same.kp kb__law_same_2 (ma_cons (m_var (i := 4) rfl (by first | exact .inl rfl | exact .inr (.inl rfl) | exact .inr (.inr rfl))) (ma_cons (m_var (i := 3) rfl (by first | exact .inl rfl | exact .inr (.inl rfl) | exact .inr (.inr rfl))) (ma_nil)))) (m_and1 (m_cmp (op_eqA c.rm.r.units) l_eq (m_fnB (x := "repr") (call_repA c) l_rep rfl G.z_repr PyProof.Rows.Boot.«repr» (ma_cons (m_var (i := 0) rfl (by first | exact .inl rfl | exact .inr (.inl rfl) | exact .inr (.inr rfl))) (ma_nil))) (m_var (i := 2) rfl (by first | exact .inl rfl | exact .inr (.inl rfl) | exact .inr (.inr rfl))) (nomark _))))))))))))))))))
theorem ok_law (G : FX K mg) (TB : ∀ x ∈ lamDefs, LamX.TabB base mg (He.cT K (x, none)).1 (He.cT K (x, none)).2) : ∃ fd, FunD K "law" "law" (defArgs (top 27)) (defBody (top 27)) (defScope (top 27)) [] [] (He.ga K "law") fd ∧ FnM P w K mg base 8 (He.ga K "law") fd ["script"] (r_law (fun x => (He.cT K (x, none)).2)) := by
  obtain ⟨fd, D⟩ := G.d_law
  obtain ⟨fd__law_any, D__law_any, F__law_any⟩ := ok__law_any (P := P) (w := w) (base := base) G
  obtain ⟨fd__law_bent, D__law_bent, F__law_bent⟩ := ok__law_bent (P := P) (w := w) (base := base) G
  obtain ⟨fd__law_right, D__law_right, F__law_right⟩ := ok__law_right (P := P) (w := w) (base := base) G TB
  have kb__law_any_2 := kb_all (ps := ["cells", "spot"]) D__law_any 2 [] [0, 1] (fun _ _ _ _ _ _ us ws h1 h2 => match us, ws, h1, h2 with | [_, _], [], _, _ => rfl)
  have kb__law_bent_3 := kb_all (ps := ["cells", "spot", "thing"]) D__law_bent 3 [] [0, 1, 2] (fun _ _ _ _ _ _ us ws h1 h2 => match us, ws, h1, h2 with | [_, _, _], [], _, _ => rfl)
  have kb__law_right_1 := kb_all (ps := ["thing"]) D__law_right 1 [] [0] (fun _ _ _ _ _ _ us ws h1 h2 => match us, ws, h1, h2 with | [_], [], _, _ => rfl)
  refine ⟨fd, D, fnm_at (k := 7) D sc_law G.sm fun A outer s H E c => ?_⟩
  exact s_cons (s_set (i := 1) c.nd rfl (by first | exact .inl rfl | exact .inr rfl) (m_lst (ma_cons (m_int) (ma_nil))) (.inl rfl))
    (s_cons (s_for c (i_rng1 rfl G.z_range (ma_cons (m_op op_addA l_add (m_int) (m_fnB (x := "min") (call_min2 c.calm) l_i2 rfl G.z_min PyProof.Rows.Boot.«min» (ma_cons (m_int) (ma_cons (m_fnB (x := "len") call_len l_len rfl G.z_len PyProof.Rows.Boot.«len» (ma_cons (m_var (i := 0) rfl (by first | exact .inl rfl | exact .inr (.inl rfl) | exact .inr (.inr rfl))) (ma_nil))) (ma_nil))))) (ma_nil))) (g_name c.nd (i := 2) rfl (by first | exact .inl rfl | exact .inr rfl) (.inl rfl))
     (s_cons (s_set (i := 3) c.nd rfl (by first | exact .inl rfl | exact .inr rfl) (m_call (x := "_law_any") (F__law_any.mono (by decide)) c (by rfl) G.g__law_any D__law_any.kp kb__law_any_2 (ma_cons (m_var (i := 0) rfl (by first | exact .inl rfl | exact .inr (.inl rfl) | exact .inr (.inr rfl))) (ma_cons (m_var (i := 1) rfl (by first | exact .inl rfl | exact .inr (.inl rfl) | exact .inr (.inr rfl))) (ma_nil)))) (.inl rfl))
     (s_cons (s_par (i := 4) (j := 5) c.calm c.nd rfl rfl (by decide) rfl rfl (ma_cons (m_call (x := "_law_bent") (F__law_bent.mono (by decide)) c (by rfl) G.g__law_bent D__law_bent.kp kb__law_bent_3 (ma_cons (m_var (i := 0) rfl (by first | exact .inl rfl | exact .inr (.inl rfl) | exact .inr (.inr rfl))) (ma_cons (m_var (i := 1) rfl (by first | exact .inl rfl | exact .inr (.inl rfl) | exact .inr (.inr rfl))) (ma_cons (m_var (i := 3) rfl (by first | exact .inl rfl | exact .inr (.inl rfl) | exact .inr (.inr rfl))) (ma_nil))))) (ma_cons (m_non) (ma_nil))) rfl)
     (s_cons (s_if (t_val (m_fnB (x := "isinstance") call_isiA (l_isi xt0_ok) rfl G.z_isinstance PyProof.Rows.Boot.«isinstance» (ma_cons (m_var (i := 4) rfl (by first | exact .inl rfl | exact .inr (.inl rfl) | exact .inr (.inr rfl))) (ma_cons (m_ty (x := "tuple") rfl G.z_tuple PyProof.Rows.Boot.«tuple») (ma_nil)))))
      (s_one (s_set (i := 5) c.nd rfl (by first | exact .inl rfl | exact .inr rfl) (m_call (x := "_law_bent") (F__law_bent.mono (by decide)) c (by rfl) G.g__law_bent D__law_bent.kp kb__law_bent_3 (ma_cons (m_var (i := 0) rfl (by first | exact .inl rfl | exact .inr (.inl rfl) | exact .inr (.inr rfl))) (ma_cons (m_var (i := 1) rfl (by first | exact .inl rfl | exact .inr (.inl rfl) | exact .inr (.inr rfl))) (ma_cons (m_var (i := 4) rfl (by first | exact .inl rfl | exact .inr (.inl rfl) | exact .inr (.inr rfl))) (ma_nil))))) (.inl rfl)))
      (s_nil))
     (s_one (s_for c (i_seq (m_tup (ma_cons (m_var (i := 3) rfl (by first | exact .inl rfl | exact .inr (.inl rfl) | exact .inr (.inr rfl))) (ma_cons (m_var (i := 4) rfl (by first | exact .inl rfl | exact .inr (.inl rfl) | exact .inr (.inr rfl))) (ma_cons (m_var (i := 5) rfl (by first | exact .inl rfl | exact .inr (.inl rfl) | exact .inr (.inr rfl))) (ma_cons (m_var (i := 3) rfl (by first | exact .inl rfl | exact .inr (.inl rfl) | exact .inr (.inr rfl))) (ma_cons (m_fnT (x := "list") call_list_of l_list rfl G.z_list PyProof.Rows.Boot.«list» (ma_cons (m_var (i := 3) rfl (by first | exact .inl rfl | exact .inr (.inl rfl) | exact .inr (.inr rfl))) (ma_nil))) (ma_nil)))))))) (g_name c.nd (i := 6) rfl (by first | exact .inl rfl | exact .inr rfl) (.inl rfl))
      (s_one (s_if (t_not (t_val (m_call (x := "_law_right") (F__law_right.mono (by decide)) c (by rfl) G.g__law_right D__law_right.kp kb__law_right_1 (ma_cons (m_var (i := 6) rfl (by first | exact .inl rfl | exact .inr (.inl rfl) | exact .inr (.inr rfl))) (ma_nil)))))
       (s_one (s_ret (m_bl)))
       (s_nil)))))))))
    (s_cons (s_set (i := 7) c.nd rfl (by first | exact .inl rfl | exact .inr rfl) (m_op op_mulA l_mul (m_tup (ma_cons (m_int) (ma_nil))) (m_int)) (.inl rfl))
    (s_cons (s_set (i := 8) c.nd rfl (by first | exact .inl rfl | exact .inr rfl) (m_lst (ma_cons (m_op op_addA l_add (m_var (i := 7) rfl (by first | exact .inl rfl | exact .inr (.inl rfl) | exact .inr (.inr rfl))) (m_tup (ma_cons (m_int) (ma_nil)))) (ma_cons (m_op op_addA l_add (m_var (i := 7) rfl (by first | exact .inl rfl | exact .inr (.inl rfl) | exact .inr (.inr rfl))) (m_tup (ma_cons (m_int) (ma_cons (m_int) (ma_nil))))) (ma_cons (m_tup (ma_cons (m_int) (ma_nil))) (ma_cons (m_tup (ma_cons (m_int) (ma_nil))) (ma_cons (m_tup (ma_nil)) (ma_cons (m_non) (ma_cons (m_int) (ma_cons (m_str) (ma_cons (m_dct0) (ma_cons (m_bl) (ma_nil)))))))))))) (.inl rfl))
    (s_one (s_ret (m_fnB (x := "all") (cr_all c.calm) l_all rfl G.z_all PyProof.Rows.Boot.«all» (ma_cons (m_comp (tg := (.one 6)) c.calm c.nd (i_seq (m_op op_addA l_add (m_var (i := 8) rfl (by first | exact .inl rfl | exact .inr (.inl rfl) | exact .inr (.inr rfl))) (m_lst (ma_cons (m_lst (ma_cons (m_int) (ma_nil))) (ma_cons (m_tup (ma_cons (m_tup (ma_cons (m_int) (ma_nil))) (ma_nil))) (ma_cons (m_tup (ma_cons (m_int) (ma_cons (m_bl) (ma_nil)))) (ma_nil))))))) (blkOk_by (own := [("thing", 6)]) (by kernel_rfl)) ((by decide)) (fun s H C cl fp => pg_name c.nd rfl (by first | exact .inl rfl | exact .inr rfl) (.inr rfl)) (fun s H C cl fp => ts_nil) (fun s H C cl fp => m_call (x := "_law_right") (F__law_right.mono (by decide)) (cm_blk c s H _ _ fp) (by rfl) G.g__law_right D__law_right.kp kb__law_right_1 (ma_cons (m_var (i := 6) rfl (by first | exact .inl rfl | exact .inr (.inl rfl) | exact .inr (.inr rfl))) (ma_nil)))) (ma_nil))))))))
end
end Lw
end
section
set_option maxHeartbeats 4000000
namespace Dn
open PySem PySem.Spec PyProof.Rows L2 Mn Vn
noncomputable def v__law_cell_3a1a_0 : VSt :=
    vAsg (vOp (vFdiv) (vVar 4) (vCon (.int 306783379))) (vgN 4)
noncomputable def v__law_cell_3a2a_0 : VSt :=
    vRet (vOp (vMod) (vVar 4) (vCon (.int 306783379)))
noncomputable def v__law_cell_3a_2 : VSt :=
    vIf (vTst (vOp (vGt) (vVar 4) (vCon (.int 0))))
      (v__law_cell_3a2a_0)
      (vNext)
noncomputable def v__law_cell_3a_1 : VSt :=
    vSeq (vFor (vIt rng1 (vCons (vOp (vFdiv) (vVar 2) (vFn (f1 lenV) (vCons (vVar 0) (vNil)))) (vNil))) (vgN 5)
      (v__law_cell_3a1a_0))
    (v__law_cell_3a_2)
noncomputable def v__law_cell_3a_0 : VSt :=
    vSeq (vAsg (vOp (vIx) (vVar 0) (vOp (vMod) (vVar 2) (vFn (f1 lenV) (vCons (vVar 0) (vNil))))) (vgN 4))
    (v__law_cell_3a_1)
noncomputable def v__law_cell_4a_0 : VSt :=
    vAsg (vOp (vAdd) (vVar 3) (vOp (vMul) (vOp (vMod) (vOp (vIx) (vVar 0) (vOp (vMod) (vVar 2) (vFn (f1 lenV) (vCons (vVar 0) (vNil))))) (vCon (.int 2147483629))) (vOp (vAdd) (vCon (.int 1)) (vOp (vFdiv) (vVar 2) (vFn (f1 lenV) (vCons (vVar 0) (vNil))))))) (vgN 3)
noncomputable def v__law_cell_5 : VSt :=
    vRet (vOp (vFdiv) (vOp (vMod) (vOp (vPow) (vOp (vMod) (vVar 3) (vCon (.int 2147483647))) (vCon (.int 5))) (vCon (.int 2147483647))) (vCon (.int 7)))
noncomputable def v__law_cell_4 : VSt :=
    vSeq (vIf (vTst (vOp (vGt) (vFn (f1 lenV) (vCons (vVar 0) (vNil))) (vCon (.int 0))))
     (v__law_cell_4a_0)
     (vNext))
    (v__law_cell_5)
noncomputable def v__law_cell_3 : VSt :=
    vSeq (vIf (vAndT (vTst (vOp (vGt) (vFn (f1 lenV) (vCons (vVar 0) (vNil))) (vCon (.int 0)))) (vAndT (vTst (vOp (vGe) (vOp (vIx) (vVar 0) (vOp (vMod) (vVar 2) (vFn (f1 lenV) (vCons (vVar 0) (vNil))))) (vOp (vPow) (vCon (.int 10)) (vCon (.int 18))))) (vTst (vOp (vLt) (vOp (vFdiv) (vVar 2) (vFn (f1 lenV) (vCons (vVar 0) (vNil)))) (vCon (.int 60))))))
     (v__law_cell_3a_0)
     (vNext))
    (v__law_cell_4)
noncomputable def v__law_cell_2 : VSt :=
    vSeq (vAsg (vOp (vAdd) (vOp (vMul) (vOp (vMul) (vCon (.int 31)) (vVar 2)) (vVar 2)) (vOp (vMul) (vCon (.int 7919)) (vVar 2))) (vgN 3))
    (v__law_cell_3)
noncomputable def v__law_cell_1 : VSt :=
    vSeq (vAsg (vOpL (vIx) 1 (vCon (.int 0))) (vgN 2))
    (v__law_cell_2)
noncomputable def v__law_cell : VSt :=
    vSeq (vSetSub (vOp (vAdd) (vOpL (vIx) 1 (vCon (.int 0))) (vCon (.int 1))) 1 (vCon (.int 0)))
    (v__law_cell_1)
noncomputable def V__law_cell : VF := runV 6 2 [1] v__law_cell
end Dn
end
section
set_option maxHeartbeats 4000000
namespace Dn
open PySem PySem.Spec PyProof.Rows L2 Mn Vn
noncomputable def v__law_any_1a_1 : VSt :=
    vKill [5] (vAppend 3 (vOp (vIx) (vLst (vCons (vOp (vSub) (vOp (vMod) (vVar 5) (vCon (.int 9))) (vCon (.int 4))) (vCons (vCon (.int 0)) (vCons (vOp (vSub) (vOp (vMul) (vOp (vMul) (vVar 5) (vVar 5)) (vVar 5)) (vOp (vPow) (vCon (.int 10)) (vCon (.int 20)))) (vCons (vOp (vSub) (vCon (.int 0)) (vVar 5)) (vNil)))))) (vOp (vMod) (vOp (vFdiv) (vVar 5) (vCon (.int 9))) (vCon (.int 4)))))
noncomputable def v__law_any_1a_0 : VSt :=
    vSeq (vKill [4] (vAsg (vCall V__law_cell [1] (vBind [0, 1] [] (vCons (vVar 0) (vConsL 1 (vNil))) vNil)) (vgN 5)))
    (v__law_any_1a_1)
noncomputable def v__law_any_2 : VSt :=
    vRet (vFn (f1 tupleV) (vCons (vOp (vAdd) (vVar 3) (vLst (vCons (vCon (.int 1)) (vNil)))) (vNil)))
noncomputable def v__law_any_1 : VSt :=
    vSeq (vKill [0, 2, 4, 5] (vFor (vIt rng1 (vCons (vOp (vIx) (vLst (vCons (vOp (vMod) (vOp (vFdiv) (vVar 2) (vCon (.int 3))) (vCon (.int 5))) (vCons (vOp (vMod) (vOp (vFdiv) (vVar 2) (vCon (.int 3))) (vCon (.int 41))) (vCons (vCon (.int 40)) (vNil))))) (vOp (vMod) (vVar 2) (vCon (.int 3)))) (vNil))) (vgN 4)
     (v__law_any_1a_0)))
    (v__law_any_2)
noncomputable def v__law_any : VSt :=
    vSeq (vPar 2 3 (vCons (vCall V__law_cell [1] (vBind [0, 1] [] (vCons (vVar 0) (vConsL 1 (vNil))) vNil)) (vConsO (vLst (vNil)) (vNil))))
    (v__law_any_1)
noncomputable def V__law_any : VF := runV 6 2 [1] v__law_any
end Dn
end
section
set_option maxHeartbeats 4000000
namespace Dn
open PySem PySem.Spec PyProof.Rows L2 Mn Vn
noncomputable def v__law_bent_1a_0 : VSt :=
    vRet (vOp (vIx) (vLst (vCons (vTup (vCons (vCon (.non)) (vNil))) (vCons (vLst (vNil)) (vCons (vTup (vCons (vCon (.bl true)) (vNil))) (vCons (vTup (vCons (vCon (.int 2)) (vNil))) (vCons (vTup (vCons (vCon (.int 1)) (vNil))) (vCons (vCon (.non)) (vCons (vCon (.str "row")) (vNil))))))))) (vOp (vMod) (vVar 3) (vCon (.int 7))))
noncomputable def v__law_bent_4a_0 : VSt :=
    vRet (vOp (vAdd) (vOp (vAdd) (vSl (vVar 2) (voNo) (voSome (vVar 5))) (vTup (vCons (vVar 6) (vNil)))) (vSl (vVar 2) (voSome (vOp (vAdd) (vVar 5) (vCon (.int 1)))) (voNo)))
noncomputable def v__law_bent_5a_0 : VSt :=
    vRet (vUn revV (vVar 2))
noncomputable def v__law_bent_6a_0 : VSt :=
    vRet (vOp (vAdd) (vOp (vAdd) (vSl (vVar 2) (voNo) (voSome (vVar 5))) (vSl (vVar 2) (voSome (vVar 5)) (voSome (vOp (vAdd) (vVar 5) (vCon (.int 1)))))) (vSl (vVar 2) (voSome (vVar 5)) (voNo)))
noncomputable def v__law_bent_7 : VSt :=
    vRet (vOp (vIx) (vLst (vCons (vOp (vAdd) (vSl (vVar 2) (voNo) (voSome (vVar 5))) (vSl (vVar 2) (voSome (vOp (vAdd) (vVar 5) (vCon (.int 1)))) (voNo))) (vCons (vFn (f1 listV) (vCons (vVar 2) (vNil))) (vNil)))) (vOp (vMod) (vOp (vFdiv) (vVar 3) (vCon (.int 6))) (vCon (.int 2))))
noncomputable def v__law_bent_6 : VSt :=
    vSeq (vIf (vTst (vOp (vEq) (vOp (vMod) (vVar 3) (vCon (.int 6))) (vCon (.int 4))))
     (v__law_bent_6a_0)
     (vNext))
    (v__law_bent_7)
noncomputable def v__law_bent_5 : VSt :=
    vSeq (vIf (vTst (vOp (vEq) (vOp (vMod) (vVar 3) (vCon (.int 6))) (vCon (.int 3))))
     (v__law_bent_5a_0)
     (vNext))
    (v__law_bent_6)
noncomputable def v__law_bent_4 : VSt :=
    vSeq (vKill [6] (vIf (vTst (vOp (vLt) (vOp (vMod) (vVar 3) (vCon (.int 6))) (vCon (.int 3))))
     (v__law_bent_4a_0)
     (vNext)))
    (v__law_bent_5)
noncomputable def v__law_bent_3 : VSt :=
    vSeq (vAsg (vOp (vIx) (vLst (vCons (vCon (.non)) (vCons (vCon (.bl true)) (vCons (vCon (.str "1")) (vCons (vTup (vCons (vCon (.int 1)) (vNil))) (vCons (vLst (vNil)) (vCons (vCon (.int 0)) (vCons (vCon (.int 2)) (vCons (vOp (vSub) (vCon (.int 0)) (vCon (.int 1))) (vCons (vDct0) (vNil))))))))))) (vOp (vMod) (vOp (vFdiv) (vVar 3) (vCon (.int 6))) (vCon (.int 9)))) (vgN 6))
    (v__law_bent_4)
noncomputable def v__law_bent_2 : VSt :=
    vSeq (vKill [4] (vAsg (vOp (vIx) (vLst (vCons (vOp (vMod) (vOp (vFdiv) (vVar 4) (vCon (.int 2))) (vFn (f1 lenV) (vCons (vVar 2) (vNil)))) (vCons (vOp (vSub) (vFn (f1 lenV) (vCons (vVar 2) (vNil))) (vCon (.int 1))) (vNil)))) (vOp (vMod) (vVar 4) (vCon (.int 2)))) (vgN 5)))
    (v__law_bent_3)
noncomputable def v__law_bent_1 : VSt :=
    vSeq (vIf (vTst (vOp (vEqN) (vVar 2) (vTup (vNil))))
     (v__law_bent_1a_0)
     (vNext))
    (v__law_bent_2)
noncomputable def v__law_bent : VSt :=
    vSeq (vKill [0] (vPar 3 4 (vCons (vCall V__law_cell [1] (vBind [0, 1] [] (vCons (vVar 0) (vConsL 1 (vNil))) vNil)) (vCons (vCall V__law_cell [1] (vBind [0, 1] [] (vCons (vVar 0) (vConsL 1 (vNil))) vNil)) (vNil)))))
    (v__law_bent_1)
noncomputable def V__law_bent : VF := runV 7 3 [1] v__law_bent
end Dn
end
section
set_option maxHeartbeats 4000000
namespace Dn
open PySem PySem.Spec PyProof.Rows L2 Mn Vn
noncomputable def v__law_same : VSt :=
    vRet (vOp (vEq) (vFn (f1 repV) (vCons (vVar 0) (vNil))) (vFn (f1 repV) (vCons (vOp (vMul) (vLst (vCons (vVar 1) (vNil))) (vFn (f1 lenV) (vCons (vVar 0) (vNil)))) (vNil))))
noncomputable def V__law_same : VF := runV 2 2 [] v__law_same
end Dn
end
section
set_option maxHeartbeats 4000000
namespace Dn
open PySem PySem.Spec PyProof.Rows L2 Mn Vn
noncomputable def v__law_told_1a_0 (τ : Tb) (lam : M) (t : TR) : VSt :=
    vAppend 2 (vDeed lam t)
noncomputable def v__law_told_1b_0 (τ : Tb) (lam : M) (t : TR) : VSt :=
    vAsg (vVar 3) (vgN 1)
noncomputable def v__law_told_2a_0 (τ : Tb) (lam : M) (t : TR) : VSt :=
    vRet (vVar 2)
noncomputable def v__law_told_10a_0 (τ : Tb) (lam : M) (t : TR) : VSt :=
    vRet (vTup (vCons (vCon (.str "other")) (vNil)))
noncomputable def v__law_told_11a_0 (τ : Tb) (lam : M) (t : TR) : VSt :=
    vRet (vTup (vCons (vOp (vIx) (vLst (vCons (vCon (.str "bag")) (vCons (vCon (.str "row")) (vNil)))) (vOp (vSub) (vVar 6) (vCon (.int 2)))) (vCons (vXf τ.cs "position" (vVar 1)) (vNil))))
noncomputable def v__law_told_12a_0 (τ : Tb) (lam : M) (t : TR) : VSt :=
    vRet (vTup (vCons (vCon (.str "many")) (vCons (vXf τ.cs "limit" (vVar 1)) (vNil))))
noncomputable def v__law_told_14 (τ : Tb) (lam : M) (t : TR) : VSt :=
    vRet (vTup (vCons (vOp (vIx) (vVar 7) (vVar 6)) (vCons (vXf τ.cs "value" (vVar 1)) (vNil))))
noncomputable def v__law_told_13 (τ : Tb) (lam : M) (t : TR) : VSt :=
    vSeq (vAsg (vLst (vCons (vCon (.str "place")) (vCons (vCon (.str "distance")) (vCons (vCon (.str "")) (vCons (vCon (.str "")) (vCons (vCon (.str "number")) (vCons (vCon (.str "stone")) (vCons (vCon (.str "")) (vCons (vCon (.str "bounds")) (vNil)))))))))) (vgN 7))
    (v__law_told_14 τ lam t)
noncomputable def v__law_told_12 (τ : Tb) (lam : M) (t : TR) : VSt :=
    vSeq (vIf (vTst (vOp (vEq) (vVar 6) (vCon (.int 6))))
     (v__law_told_12a_0 τ lam t)
     (vNext))
    (v__law_told_13 τ lam t)
noncomputable def v__law_told_11 (τ : Tb) (lam : M) (t : TR) : VSt :=
    vSeq (vIf (vOrT (vTst (vOp (vEq) (vVar 6) (vCon (.int 2)))) (vTst (vOp (vEq) (vVar 6) (vCon (.int 3)))))
     (v__law_told_11a_0 τ lam t)
     (vNext))
    (v__law_told_12 τ lam t)
noncomputable def v__law_told_10 (τ : Tb) (lam : M) (t : TR) : VSt :=
    vSeq (vIf (vOrT (vTst (vOp (vEq) (vVar 6) (vCon (.int 9)))) (vTst (vOp (vNe) (vVar 5) (vLst (vCons (vOp (vLt) (vVar 6) (vCon (.int 5))) (vCons (vOp (vLt) (vVar 6) (vCon (.int 5))) (vCons (vOp (vGt) (vVar 6) (vCon (.int 4))) (vCons (vOp (vGt) (vVar 6) (vCon (.int 4))) (vNil)))))))))
     (v__law_told_10a_0 τ lam t)
     (vNext))
    (v__law_told_11 τ lam t)
noncomputable def v__law_told_9 (τ : Tb) (lam : M) (t : TR) : VSt :=
    vSeq (vAsg (vIfE (vTst (vOp (vEq) (vBm countV (vVar 4) (vCons (vCon (.bl true)) (vNil))) (vCon (.int 1)))) (vBm indexV (vVar 4) (vCons (vCon (.bl true)) (vNil))) (vCon (.int 9))) (vgN 6))
    (v__law_told_10 τ lam t)
noncomputable def v__law_told_8 (τ : Tb) (lam : M) (t : TR) : VSt :=
    vSeq (vAsg (vOp (vAdd) (vVar 5) (vLst (vCons (vFn (isiV τ.xt) (vCons (vVar 1) (vCons (vCon (.glo "WalkError")) (vNil)))) (vCons (vFn (isiV τ.xt) (vCons (vVar 1) (vCons (vCon (.ty "RuntimeError")) (vNil)))) (vNil))))) (vgN 5))
    (v__law_told_9 τ lam t)
noncomputable def v__law_told_7 (τ : Tb) (lam : M) (t : TR) : VSt :=
    vSeq (vAsg (vLst (vCons (vFn (isiV τ.xt) (vCons (vVar 1) (vCons (vCon (.glo "StoneError")) (vNil)))) (vCons (vFn (isiV τ.xt) (vCons (vVar 1) (vCons (vCon (.ty "ValueError")) (vNil)))) (vNil)))) (vgN 5))
    (v__law_told_8 τ lam t)
noncomputable def v__law_told_6 (τ : Tb) (lam : M) (t : TR) : VSt :=
    vSeq (vAsg (vOp (vAdd) (vVar 4) (vLst (vCons (vFn (isiV τ.xt) (vCons (vVar 1) (vCons (vCon (.glo "TooManyStones")) (vNil)))) (vCons (vFn (isiV τ.xt) (vCons (vVar 1) (vCons (vCon (.glo "OutOfBounds")) (vNil)))) (vNil))))) (vgN 4))
    (v__law_told_7 τ lam t)
noncomputable def v__law_told_5 (τ : Tb) (lam : M) (t : TR) : VSt :=
    vSeq (vAsg (vOp (vAdd) (vVar 4) (vLst (vCons (vFn (isiV τ.xt) (vCons (vVar 1) (vCons (vCon (.glo "InvalidNumber")) (vNil)))) (vCons (vFn (isiV τ.xt) (vCons (vVar 1) (vCons (vCon (.glo "NoStone")) (vNil)))) (vNil))))) (vgN 4))
    (v__law_told_6 τ lam t)
noncomputable def v__law_told_4 (τ : Tb) (lam : M) (t : TR) : VSt :=
    vSeq (vAsg (vOp (vAdd) (vVar 4) (vLst (vCons (vFn (isiV τ.xt) (vCons (vVar 1) (vCons (vCon (.glo "InvalidBag")) (vNil)))) (vCons (vFn (isiV τ.xt) (vCons (vVar 1) (vCons (vCon (.glo "InvalidRow")) (vNil)))) (vNil))))) (vgN 4))
    (v__law_told_5 τ lam t)
noncomputable def v__law_told_3 (τ : Tb) (lam : M) (t : TR) : VSt :=
    vSeq (vAsg (vLst (vCons (vFn (isiV τ.xt) (vCons (vVar 1) (vCons (vCon (.glo "InvalidPlace")) (vNil)))) (vCons (vFn (isiV τ.xt) (vCons (vVar 1) (vCons (vCon (.glo "InvalidDistance")) (vNil)))) (vNil)))) (vgN 4))
    (v__law_told_4 τ lam t)
noncomputable def v__law_told_2 (τ : Tb) (lam : M) (t : TR) : VSt :=
    vSeq (vIf (vTst (vOp (vIs) (vVar 1) (vCon (.non))))
     (v__law_told_2a_0 τ lam t)
     (vNext))
    (v__law_told_3 τ lam t)
noncomputable def v__law_told_1 (τ : Tb) (lam : M) (t : TR) : VSt :=
    vSeq (vTry τ.cs τ.cat 3 (v__law_told_1a_0 τ lam t) (v__law_told_1b_0 τ lam t))
    (v__law_told_2 τ lam t)
noncomputable def v__law_told (τ : Tb) (lam : M) (t : TR) : VSt :=
    vSeq (vPar 1 2 (vCons (vCon (.non)) (vConsO (vLst (vNil)) (vNil))))
    (v__law_told_1 τ lam t)
noncomputable def V__law_told (τ : Tb) : M → TR → FR := fun lam t => finV [] (v__law_told τ lam t (startV 8 [.opq lam]))
end Dn
end
section
set_option maxHeartbeats 4000000
namespace Dn
open PySem PySem.Spec PyProof.Rows L2 Mn Vn
noncomputable def v__law_wrong_0a_0 : VSt :=
    vRet (vLst (vCons (vCon (.non)) (vNil)))
noncomputable def v__law_wrong_1a0a_0 : VSt :=
    vRet (vLst (vCons (vVar 1) (vNil)))
noncomputable def v__law_wrong_1a_0 : VSt :=
    vKill [1] (vIf (vOrT (vNotT (vTst (vFn (isiV xt0) (vCons (vOp (vIx) (vVar 0) (vVar 1)) (vCons (vCon (.ty "int")) (vNil)))))) (vTst (vFn (isiV xt0) (vCons (vOp (vIx) (vVar 0) (vVar 1)) (vCons (vCon (.ty "bool")) (vNil))))))
      (v__law_wrong_1a0a_0)
      (vNext))
noncomputable def v__law_wrong_2 : VSt :=
    vRet (vIfE (vTst (vOp (vEq) (vOp (vIx) (vVar 0) (vOp (vSub) (vFn (f1 lenV) (vCons (vVar 0) (vNil))) (vCon (.int 1)))) (vCon (.int 1)))) (vLst (vNil)) (vLst (vCons (vCon (.str "last")) (vNil))))
noncomputable def v__law_wrong_1 : VSt :=
    vSeq (vKill [1] (vFor (vIt rng1 (vCons (vFn (f1 lenV) (vCons (vVar 0) (vNil))) (vNil))) (vgN 1)
     (v__law_wrong_1a_0)))
    (v__law_wrong_2)
noncomputable def v__law_wrong : VSt :=
    vSeq (vIf (vOrT (vNotT (vTst (vFn (isiV xt0) (vCons (vVar 0) (vCons (vCon (.ty "tuple")) (vNil)))))) (vOrT (vTst (vOp (vLt) (vFn (f1 lenV) (vCons (vVar 0) (vNil))) (vCon (.int 1)))) (vTst (vOp (vGt) (vFn (f1 lenV) (vCons (vVar 0) (vNil))) (vCon (.int 41))))))
     (v__law_wrong_0a_0)
     (vNext))
    (v__law_wrong_1)
noncomputable def V__law_wrong : VF := runV 2 1 [] v__law_wrong
end Dn
end
section
set_option maxHeartbeats 4000000
namespace Dn
open PySem PySem.Spec PyProof.Rows L2 Mn Vn
noncomputable def v_is_integer_0a_0 : VSt :=
    vRet (vCon (.bl false))
noncomputable def v_is_integer_1 : VSt :=
    vRet (vAndV (vOrV (vOp (vIs) (vVar 1) (vCon (.non))) (vOp (vGe) (vVar 0) (vVar 1))) (vOrV (vOp (vIs) (vVar 2) (vCon (.non))) (vOp (vLe) (vVar 0) (vVar 2))))
noncomputable def v_is_integer : VSt :=
    vSeq (vIf (vOrT (vNotT (vTst (vFn (isiV xt0) (vCons (vVar 0) (vCons (vCon (.ty "int")) (vNil)))))) (vTst (vFn (isiV xt0) (vCons (vVar 0) (vCons (vCon (.ty "bool")) (vNil))))))
     (v_is_integer_0a_0)
     (vNext))
    (v_is_integer_1)
noncomputable def V_is_integer : VF := runV 3 3 [] v_is_integer
end Dn
end
section
set_option maxHeartbeats 4000000
namespace Dn
open PySem PySem.Spec PyProof.Rows L2 Mn Vn
noncomputable def v_check_row_0a_0 : VSt :=
    vRaise "InvalidRow" "position" [.non] (vNil)
noncomputable def v_check_row_1a0a_0 : VSt :=
    vRaise "InvalidRow" "position" [] (vCons (vVar 1) (vNil))
noncomputable def v_check_row_1a_0 : VSt :=
    vIf (vNotT (vTst (vCall V_is_integer [] (vBind [0, 1, 2] [.non, .non] (vCons (vVar 2) (vNil)) vNil))))
      (v_check_row_1a0a_0)
      (vNext)
noncomputable def v_check_row_2a_0 : VSt :=
    vRaise "InvalidRow" "position" [] (vCons (vCon (.str "last")) (vNil))
noncomputable def v_check_row_2 : VSt :=
    vIf (vTst (vOp (vNe) (vOp (vIx) (vVar 0) (vUn vNeg (vCon (.int 1)))) (vCon (.int 1))))
     (v_check_row_2a_0)
     (vNext)
noncomputable def v_check_row_1 : VSt :=
    vSeq (vFor (vIt enum1 (vCons (vVar 0) (vNil))) (vgT 2 (vgsCons (vgN 1) (vgsCons (vgN 2) (vgsNil))))
     (v_check_row_1a_0))
    (v_check_row_2)
noncomputable def v_check_row : VSt :=
    vSeq (vIf (vOrT (vNotT (vTst (vFn (isiV xt0) (vCons (vVar 0) (vCons (vCon (.ty "tuple")) (vNil)))))) (vNotT (vTst (vChain (vLe) (vLe) (vCon (.int 1)) (vFn (f1 lenV) (vCons (vVar 0) (vNil))) (vOp (vAdd) (vCon (.int 40)) (vCon (.int 1)))))))
     (v_check_row_0a_0)
     (vNext))
    (v_check_row_1)
noncomputable def V_check_row : VF := runV 3 1 [] v_check_row
end Dn
end
section
set_option maxHeartbeats 4000000
namespace Dn
open PySem PySem.Spec PyProof.Rows L2 Mn Vn
noncomputable def v_height_of_1 : VSt :=
    vRet (vOp (vIx) (vVar 0) (vCon (.int 0)))
noncomputable def v_height_of : VSt :=
    vSeq (vDrop (vCall V_check_row [] (vBind [0] [] (vCons (vVar 0) (vNil)) vNil)))
    (v_height_of_1)
noncomputable def V_height_of : VF := runV 1 1 [] v_height_of
end Dn
end
section
set_option maxHeartbeats 4000000
namespace Dn
open PySem PySem.Spec PyProof.Rows L2 Mn Vn
noncomputable def v_is_row_0a_0 : VSt :=
    vRet (vCon (.bl false))
noncomputable def v_is_row_1 : VSt :=
    vRet (vAndV (vFn (f1 allV) (vCons (vComp (vSeqI (vVar 0)) (.one 1) (vYes) (vCall V_is_integer [] (vBind [0, 1, 2] [.non, .non] (vCons (vVar 1) (vNil)) vNil)) [1]) (vNil))) (vOp (vEq) (vOp (vIx) (vVar 0) (vUn vNeg (vCon (.int 1)))) (vCon (.int 1))))
noncomputable def v_is_row : VSt :=
    vSeq (vIf (vOrT (vNotT (vTst (vFn (isiV xt0) (vCons (vVar 0) (vCons (vCon (.ty "tuple")) (vNil)))))) (vNotT (vTst (vChain (vLe) (vLe) (vCon (.int 1)) (vFn (f1 lenV) (vCons (vVar 0) (vNil))) (vOp (vAdd) (vCon (.int 40)) (vCon (.int 1)))))))
     (v_is_row_0a_0)
     (vNext))
    (v_is_row_1)
noncomputable def V_is_row : VF := runV 2 1 [] v_is_row
end Dn
end
section
set_option maxHeartbeats 4000000
namespace Dn
open PySem PySem.Spec PyProof.Rows L2 Mn Vn
noncomputable def v_size_of_1 : VSt :=
    vRet (vOp (vSub) (vFn (f1 lenV) (vCons (vVar 0) (vNil))) (vCon (.int 1)))
noncomputable def v_size_of : VSt :=
    vSeq (vDrop (vCall V_check_row [] (vBind [0] [] (vCons (vVar 0) (vNil)) vNil)))
    (v_size_of_1)
noncomputable def V_size_of : VF := runV 1 1 [] v_size_of
end Dn
end
section
set_option maxHeartbeats 4000000
namespace Dn
open PySem PySem.Spec PyProof.Rows L2 Mn Vn
noncomputable def v__law_right_1a_0 (τ : Tb) : VSt :=
    vRet (vCon (.bl false))
noncomputable def v__law_right_5a_0 (τ : Tb) : VSt :=
    vRet (vCon (.bl false))
noncomputable def v__law_right_9a_0 (τ : Tb) : VSt :=
    vRet (vCon (.bl false))
noncomputable def v__law_right_13 (τ : Tb) : VSt :=
    vRet (vAndV (vCall V__law_same [] (vBind [0, 1] [] (vCons (vVar 4) (vCons (vVar 3) (vNil))) vNil)) (vOp (vEq) (vFn (f1 repV) (vCons (vVar 0) (vNil))) (vVar 2)))
noncomputable def v__law_right_12 (τ : Tb) : VSt :=
    vSeq (vAppend 4 (vLam [4] (V__law_told τ) (vCall V_height_of [] (vBind [0] [] (vNil) (vCons (vVar 0) (vNil))))))
    (v__law_right_13 τ)
noncomputable def v__law_right_11 (τ : Tb) : VSt :=
    vSeq (vAsgO (vLst (vCons (vLam [] (V__law_told τ) (vCall V_height_of [] (vBind [0] [] (vCons (vVar 0) (vNil)) vNil))) (vNil))) 4)
    (v__law_right_12 τ)
noncomputable def v__law_right_10 (τ : Tb) : VSt :=
    vSeq (vKill [1] (vAsg (vIfE (vTst (vOp (vEq) (vVar 1) (vLst (vNil)))) (vLst (vCons (vOp (vIx) (vVar 0) (vCon (.int 0))) (vNil))) (vTup (vCons (vCon (.str "row")) (vCons (vOp (vIx) (vVar 1) (vCon (.int 0))) (vNil))))) (vgN 3)))
    (v__law_right_11 τ)
noncomputable def v__law_right_9 (τ : Tb) : VSt :=
    vSeq (vKill [3, 4] (vIf (vNotT (vTst (vCall V__law_same [] (vBind [0, 1] [] (vCons (vVar 4) (vCons (vVar 3) (vNil))) vNil))))
     (v__law_right_9a_0 τ)
     (vNext)))
    (v__law_right_10 τ)
noncomputable def v__law_right_8 (τ : Tb) : VSt :=
    vSeq (vAppend 4 (vLam [4] (V__law_told τ) (vCall V_size_of [] (vBind [0] [] (vNil) (vCons (vVar 0) (vNil))))))
    (v__law_right_9 τ)
noncomputable def v__law_right_7 (τ : Tb) : VSt :=
    vSeq (vAsgO (vLst (vCons (vLam [] (V__law_told τ) (vCall V_size_of [] (vBind [0] [] (vCons (vVar 0) (vNil)) vNil))) (vNil))) 4)
    (v__law_right_8 τ)
noncomputable def v__law_right_6 (τ : Tb) : VSt :=
    vSeq (vAsg (vIfE (vTst (vOp (vEq) (vVar 1) (vLst (vNil)))) (vLst (vCons (vOp (vSub) (vFn (f1 lenV) (vCons (vVar 0) (vNil))) (vCon (.int 1))) (vNil))) (vTup (vCons (vCon (.str "row")) (vCons (vOp (vIx) (vVar 1) (vCon (.int 0))) (vNil))))) (vgN 3))
    (v__law_right_7 τ)
noncomputable def v__law_right_5 (τ : Tb) : VSt :=
    vSeq (vKill [3, 4] (vIf (vNotT (vTst (vCall V__law_same [] (vBind [0, 1] [] (vCons (vVar 4) (vCons (vVar 3) (vNil))) vNil))))
     (v__law_right_5a_0 τ)
     (vNext)))
    (v__law_right_6 τ)
noncomputable def v__law_right_4 (τ : Tb) : VSt :=
    vSeq (vAppend 4 (vLam [4] (V__law_told τ) (vCall V_check_row [] (vBind [0] [] (vNil) (vCons (vVar 0) (vNil))))))
    (v__law_right_5 τ)
noncomputable def v__law_right_3 (τ : Tb) : VSt :=
    vSeq (vAsgO (vLst (vCons (vLam [] (V__law_told τ) (vCall V_check_row [] (vBind [0] [] (vCons (vVar 0) (vNil)) vNil))) (vNil))) 4)
    (v__law_right_4 τ)
noncomputable def v__law_right_2 (τ : Tb) : VSt :=
    vSeq (vAsg (vIfE (vTst (vOp (vEq) (vVar 1) (vLst (vNil)))) (vLst (vCons (vCon (.non)) (vNil))) (vTup (vCons (vCon (.str "row")) (vCons (vOp (vIx) (vVar 1) (vCon (.int 0))) (vNil))))) (vgN 3))
    (v__law_right_3 τ)
noncomputable def v__law_right_1 (τ : Tb) : VSt :=
    vSeq (vIf (vNotT (vTst (vCall V__law_same [] (vBind [0, 1] [] (vCons (vLst (vCons (vCall V_is_row [] (vBind [0] [] (vCons (vVar 0) (vNil)) vNil)) (vCons (vCall V_is_row [] (vBind [0] [] (vNil) (vCons (vVar 0) (vNil)))) (vNil)))) (vCons (vOp (vEq) (vVar 1) (vLst (vNil))) (vNil))) vNil))))
     (v__law_right_1a_0 τ)
     (vNext))
    (v__law_right_2 τ)
noncomputable def v__law_right (τ : Tb) : VSt :=
    vSeq (vPar 1 2 (vCons (vCall V__law_wrong [] (vBind [0] [] (vCons (vVar 0) (vNil)) vNil)) (vCons (vFn (f1 repV) (vCons (vVar 0) (vNil))) (vNil))))
    (v__law_right_1 τ)
noncomputable def V__law_right (τ : Tb) : VF := runV 5 1 [] (v__law_right τ)
end Dn
end
section
set_option maxHeartbeats 4000000
namespace Dn
open PySem PySem.Spec PyProof.Rows L2 Mn Vn
noncomputable def v_law_1a2a_0 (τ : Tb) : VSt :=
    vAsg (vCall V__law_bent [1] (vBind [0, 1, 2] [] (vCons (vVar 0) (vConsL 1 (vCons (vVar 4) (vNil)))) vNil)) (vgN 5)
noncomputable def v_law_1a3a0a_0 (τ : Tb) : VSt :=
    vRet (vCon (.bl false))
noncomputable def v_law_1a3a_0 (τ : Tb) : VSt :=
    vKill [6] (vIf (vNotT (vTst (vCall (V__law_right τ) [] (vBind [0] [] (vCons (vVar 6) (vNil)) vNil))))
       (v_law_1a3a0a_0 τ)
       (vNext))
noncomputable def v_law_1a_3 (τ : Tb) : VSt :=
    vKill [3, 4, 5, 6] (vFor (vSeqI (vTup (vCons (vVar 3) (vCons (vVar 4) (vCons (vVar 5) (vCons (vVar 3) (vCons (vFn (f1 listV) (vCons (vVar 3) (vNil))) (vNil)))))))) (vgN 6)
      (v_law_1a3a_0 τ))
noncomputable def v_law_1a_2 (τ : Tb) : VSt :=
    vSeq (vIf (vTst (vFn (isiV xt0) (vCons (vVar 4) (vCons (vCon (.ty "tuple")) (vNil)))))
      (v_law_1a2a_0 τ)
      (vNext))
    (v_law_1a_3 τ)
noncomputable def v_law_1a_1 (τ : Tb) : VSt :=
    vSeq (vPar 4 5 (vCons (vCall V__law_bent [1] (vBind [0, 1, 2] [] (vCons (vVar 0) (vConsL 1 (vCons (vVar 3) (vNil)))) vNil)) (vCons (vCon (.non)) (vNil))))
    (v_law_1a_2 τ)
noncomputable def v_law_1a_0 (τ : Tb) : VSt :=
    vSeq (vKill [2] (vAsg (vCall V__law_any [1] (vBind [0, 1] [] (vCons (vVar 0) (vConsL 1 (vNil))) vNil)) (vgN 3)))
    (v_law_1a_1 τ)
noncomputable def v_law_4 (τ : Tb) : VSt :=
    vRet (vFn (f1 allV) (vCons (vComp (vSeqI (vOp (vAdd) (vVar 8) (vLst (vCons (vLst (vCons (vCon (.int 1)) (vNil))) (vCons (vTup (vCons (vTup (vCons (vCon (.int 1)) (vNil))) (vNil))) (vCons (vTup (vCons (vCon (.int 1)) (vCons (vCon (.bl true)) (vNil)))) (vNil))))))) (.one 6) (vYes) (vCall (V__law_right τ) [] (vBind [0] [] (vCons (vVar 6) (vNil)) vNil)) [6]) (vNil)))
noncomputable def v_law_3 (τ : Tb) : VSt :=
    vSeq (vKill [7] (vAsg (vLst (vCons (vOp (vAdd) (vVar 7) (vTup (vCons (vCon (.int 1)) (vNil)))) (vCons (vOp (vAdd) (vVar 7) (vTup (vCons (vCon (.int 3)) (vCons (vCon (.int 1)) (vNil))))) (vCons (vTup (vCons (vCon (.int 1)) (vNil))) (vCons (vTup (vCons (vCon (.int 0)) (vNil))) (vCons (vTup (vNil)) (vCons (vCon (.non)) (vCons (vCon (.int 1)) (vCons (vCon (.str "row")) (vCons (vDct0) (vCons (vCon (.bl true)) (vNil)))))))))))) (vgN 8)))
    (v_law_4 τ)
noncomputable def v_law_2 (τ : Tb) : VSt :=
    vSeq (vAsg (vOp (vMul) (vTup (vCons (vCon (.int 3)) (vNil))) (vCon (.int 40))) (vgN 7))
    (v_law_3 τ)
noncomputable def v_law_1 (τ : Tb) : VSt :=
    vSeq (vKill [0, 1, 2, 3, 4, 5, 6] (vFor (vIt rng1 (vCons (vOp (vAdd) (vCon (.int 3)) (vFn (vMin2) (vCons (vCon (.int 9)) (vCons (vFn (f1 lenV) (vCons (vVar 0) (vNil))) (vNil))))) (vNil))) (vgN 2)
     (v_law_1a_0 τ)))
    (v_law_2 τ)
noncomputable def v_law (τ : Tb) : VSt :=
    vSeq (vAsgO (vLst (vCons (vCon (.int 0)) (vNil))) 1)
    (v_law_1 τ)
noncomputable def V_law (τ : Tb) : VF := runV 9 1 [] (v_law τ)
end Dn
end
section
set_option maxHeartbeats 4000000
namespace Lw
open PySem PySem.Spec PyProof.Rows L2 Mn Vn Dn
def TZ (T : Str → Addr) (Z : Bs) : Prop := ∀ x ∈ lamDefs, ∃ i : Nat, Z.b[i]? = some (.tab (T x) (qLam x))
def tb : Tb := ⟨xcs, xcat, xtI⟩
theorem sim__law_cell {Z : Bs} : FSim Z [1] (r__law_cell) V__law_cell := f_run (N := ["cells", "spot", "k", "base", "own", "turn"]) (n := 2) (w := w__law_cell) (v := v__law_cell) <|
    v_seq (o1 := [1]) (v_setSub (i := 1) (by decide) (by decide) (by decide) (v_op (nw := true) o_add (v_opL (nw := false) (i := 1) o_ix (c_int (0))) (ESim.b (c_int (1)))) (ESim.b (c_int (0))))
    (v_seq (o1 := [1]) (v_asg (by decide) (by decide) (v_opL (nw := false) (i := 1) o_ix (c_int (0))) (vg_n (i := 2) (by decide)))
    (v_seq (o1 := [1]) (v_asg (by decide) (by decide) (v_op (nw := true) o_add (v_op (nw := true) o_mul (v_op (nw := true) o_mul (c_int (31)) (ESim.b (v_var (i := 2) (by decide)))) (ESim.b (v_var (i := 2) (by decide)))) (ESim.b (v_op (nw := true) o_mul (c_int (7919)) (ESim.b (v_var (i := 2) (by decide)))))) (vg_n (i := 3) (by decide)))
    (v_seq (o1 := [1]) (v_if (by decide) (v_andT (v_tst (ESim.b (v_op (nw := true) o_gt (v_fn (nw := true) n_len (b_cons (v_var (i := 0) (by decide)) (ASim.b v_nil))) (ESim.b (c_int (0)))))) (v_andT (v_tst (ESim.b (v_op (nw := true) o_ge (v_op (nw := false) o_ix (v_var (i := 0) (by decide)) (ESim.b (v_op (nw := true) o_mod (v_var (i := 2) (by decide)) (ESim.b (v_fn (nw := true) n_len (b_cons (v_var (i := 0) (by decide)) (ASim.b v_nil))))))) (ESim.b (v_op (nw := true) o_pow (c_int (10)) (ESim.b (c_int (18)))))))) (v_tst (ESim.b (v_op (nw := true) o_lt (v_op (nw := true) o_fdiv (v_var (i := 2) (by decide)) (ESim.b (v_fn (nw := true) n_len (b_cons (v_var (i := 0) (by decide)) (ASim.b v_nil))))) (ESim.b (c_int (60))))))))
     (v_seq (o1 := [1]) (v_asg (by decide) (by decide) (v_op (nw := false) o_ix (v_var (i := 0) (by decide)) (ESim.b (v_op (nw := true) o_mod (v_var (i := 2) (by decide)) (ESim.b (v_fn (nw := true) n_len (b_cons (v_var (i := 0) (by decide)) (ASim.b v_nil))))))) (vg_n (i := 4) (by decide)))
     (v_seq (o1 := [1]) (v_for (by decide) (by decide) (i_rng1 (v_cons (v_op (nw := true) o_fdiv (v_var (i := 2) (by decide)) (ESim.b (v_fn (nw := true) n_len (b_cons (v_var (i := 0) (by decide)) (ASim.b v_nil))))) (v_nil))) (vg_n (i := 5) (by decide))
      (v_asg (by decide) (by decide) (v_op (nw := true) o_fdiv (v_var (i := 4) (by decide)) (ESim.b (c_int (306783379)))) (vg_n (i := 4) (by decide))))
     (v_if (by decide) (v_tst (ESim.b (v_op (nw := true) o_gt (v_var (i := 4) (by decide)) (ESim.b (c_int (0))))))
      (v_ret (own2 := [1]) (by decide) (by decide) (by decide) (v_op (nw := true) o_mod (v_var (i := 4) (by decide)) (ESim.b (c_int (306783379)))))
      (v_next (by decide)))))
     (v_next (by decide)))
    (v_seq (o1 := [1]) (v_if (by decide) (v_tst (ESim.b (v_op (nw := true) o_gt (v_fn (nw := true) n_len (b_cons (v_var (i := 0) (by decide)) (ASim.b v_nil))) (ESim.b (c_int (0))))))
     (v_asg (by decide) (by decide) (v_op (nw := true) o_add (v_var (i := 3) (by decide)) (ESim.b (v_op (nw := true) o_mul (v_op (nw := true) o_mod (v_op (nw := false) o_ix (v_var (i := 0) (by decide)) (ESim.b (v_op (nw := true) o_mod (v_var (i := 2) (by decide)) (ESim.b (v_fn (nw := true) n_len (b_cons (v_var (i := 0) (by decide)) (ASim.b v_nil))))))) (ESim.b (c_int (2147483629)))) (ESim.b (v_op (nw := true) o_add (c_int (1)) (ESim.b (v_op (nw := true) o_fdiv (v_var (i := 2) (by decide)) (ESim.b (v_fn (nw := true) n_len (b_cons (v_var (i := 0) (by decide)) (ASim.b v_nil))))))))))) (vg_n (i := 3) (by decide)))
     (v_next (by decide)))
    (v_ret (own2 := [1]) (by decide) (by decide) (by decide) (v_op (nw := true) o_fdiv (v_op (nw := true) o_mod (v_op (nw := true) o_pow (v_op (nw := true) o_mod (v_var (i := 3) (by decide)) (ESim.b (c_int (2147483647)))) (ESim.b (c_int (5)))) (ESim.b (c_int (2147483647)))) (ESim.b (c_int (7)))))))))
theorem sim__law_any {Z : Bs} : FSim Z [1] (r__law_any) V__law_any := f_run (N := ["cells", "spot", "n", "found", "k", "m"]) (n := 2) (w := w__law_any) (v := v__law_any) <|
    v_seq (o1 := [1, 3]) (v_parG (i := 2) (j := 3) (fl := [false, true]) rfl (by decide) (by decide) (by decide) (by decide) (na_val (v_call (idx := [0, 1]) (ios := [1]) (slots := [1]) (d := []) (dM := []) (sp := [none, some 1]) (rr := r__law_cell) (sim__law_cell) (fun _ _ => rfl) (c_cons (v_var (i := 0) (by decide)) (c_own (i := 1) (c_nil))) (by decide) (by decide) (by decide) rfl) (na_own (v_lst (v_nil)) (na_nil))))
    (v_seq (o1 := [1]) (v_kill (ks := [0, 2, 4, 5]) (by decide) (v_for (by decide) (by decide) (i_rng1 (v_cons (v_op (nw := false) o_ix (v_lst (v_cons (v_op (nw := true) o_mod (v_op (nw := true) o_fdiv (v_var (i := 2) (by decide)) (ESim.b (c_int (3)))) (ESim.b (c_int (5)))) (v_cons (v_op (nw := true) o_mod (v_op (nw := true) o_fdiv (v_var (i := 2) (by decide)) (ESim.b (c_int (3)))) (ESim.b (c_int (41)))) (v_cons (c_int (40)) (v_nil))))) (ESim.b (v_op (nw := true) o_mod (v_var (i := 2) (by decide)) (ESim.b (c_int (3)))))) (v_nil))) (vg_n (i := 4) (by decide))
     (v_seq (o1 := [1, 3]) (v_kill (ks := [4]) (by decide) (v_asg (by decide) (by decide) (v_call (idx := [0, 1]) (ios := [1]) (slots := [1]) (d := []) (dM := []) (sp := [none, some 1]) (rr := r__law_cell) (sim__law_cell) (fun _ _ => rfl) (c_cons (v_var (i := 0) (by decide)) (c_own (i := 1) (c_nil))) (by decide) (by decide) (by decide) rfl) (vg_n (i := 5) (by decide))))
     (v_kill (ks := [5]) (by decide) (v_append (i := 3) (by decide) (by decide) (by decide) (v_op (nw := false) o_ix (v_lst (v_cons (v_op (nw := true) o_sub (v_op (nw := true) o_mod (v_var (i := 5) (by decide)) (ESim.b (c_int (9)))) (ESim.b (c_int (4)))) (v_cons (c_int (0)) (v_cons (v_op (nw := true) o_sub (v_op (nw := true) o_mul (v_op (nw := true) o_mul (v_var (i := 5) (by decide)) (ESim.b (v_var (i := 5) (by decide)))) (ESim.b (v_var (i := 5) (by decide)))) (ESim.b (v_op (nw := true) o_pow (c_int (10)) (ESim.b (c_int (20)))))) (v_cons (v_op (nw := true) o_sub (c_int (0)) (ESim.b (v_var (i := 5) (by decide)))) (v_nil)))))) (ESim.b (v_op (nw := true) o_mod (v_op (nw := true) o_fdiv (v_var (i := 5) (by decide)) (ESim.b (c_int (9)))) (ESim.b (c_int (4)))))))))))
    (v_ret (own2 := [1]) (by decide) (by decide) (by decide) (v_fn (nw := true) n_tuple (b_cons (v_op (nw := true) o_add (v_var (i := 3) (by decide)) (ESim.b (v_lst (v_cons (c_int (1)) (v_nil))))) (ASim.b v_nil)))))
theorem sim__law_bent {Z : Bs} : FSim Z [1] (r__law_bent) V__law_bent := f_run (N := ["cells", "spot", "thing", "n", "m", "at", "odd"]) (n := 3) (w := w__law_bent) (v := v__law_bent) <|
    v_seq (o1 := [1]) (v_kill (ks := [0]) (by decide) (v_par (i := 3) (j := 4) (by decide) (by decide) (by decide) (by decide) (v_cons (v_call (idx := [0, 1]) (ios := [1]) (slots := [1]) (d := []) (dM := []) (sp := [none, some 1]) (rr := r__law_cell) (sim__law_cell) (fun _ _ => rfl) (c_cons (v_var (i := 0) (by decide)) (c_own (i := 1) (c_nil))) (by decide) (by decide) (by decide) rfl) (v_cons (v_call (idx := [0, 1]) (ios := [1]) (slots := [1]) (d := []) (dM := []) (sp := [none, some 1]) (rr := r__law_cell) (sim__law_cell) (fun _ _ => rfl) (c_cons (v_var (i := 0) (by decide)) (c_own (i := 1) (c_nil))) (by decide) (by decide) (by decide) rfl) (v_nil)))))
    (v_seq (o1 := [1]) (v_if (by decide) (v_tst (ESim.b (v_op (nw := true) o_eqN (v_var (i := 2) (by decide)) (ESim.b (v_tup (v_nil))))))
     (v_ret (own2 := [1]) (by decide) (by decide) (by decide) (v_op (nw := false) o_ix (v_lst (v_cons (v_tup (v_cons (c_non) (v_nil))) (v_cons (v_lst (v_nil)) (v_cons (v_tup (v_cons (c_bl (true)) (v_nil))) (v_cons (v_tup (v_cons (c_int (2)) (v_nil))) (v_cons (v_tup (v_cons (c_int (1)) (v_nil))) (v_cons (c_non) (v_cons (c_str ("row")) (v_nil))))))))) (ESim.b (v_op (nw := true) o_mod (v_var (i := 3) (by decide)) (ESim.b (c_int (7)))))))
     (v_next (by decide)))
    (v_seq (o1 := [1]) (v_kill (ks := [4]) (by decide) (v_asg (by decide) (by decide) (v_op (nw := false) o_ix (v_lst (v_cons (v_op (nw := true) o_mod (v_op (nw := true) o_fdiv (v_var (i := 4) (by decide)) (ESim.b (c_int (2)))) (ESim.b (v_fn (nw := true) n_len (b_cons (v_var (i := 2) (by decide)) (ASim.b v_nil))))) (v_cons (v_op (nw := true) o_sub (v_fn (nw := true) n_len (b_cons (v_var (i := 2) (by decide)) (ASim.b v_nil))) (ESim.b (c_int (1)))) (v_nil)))) (ESim.b (v_op (nw := true) o_mod (v_var (i := 4) (by decide)) (ESim.b (c_int (2)))))) (vg_n (i := 5) (by decide))))
    (v_seq (o1 := [1]) (v_asg (by decide) (by decide) (v_op (nw := false) o_ix (v_lst (v_cons (c_non) (v_cons (c_bl (true)) (v_cons (c_str ("1")) (v_cons (v_tup (v_cons (c_int (1)) (v_nil))) (v_cons (v_lst (v_nil)) (v_cons (c_int (0)) (v_cons (c_int (2)) (v_cons (v_op (nw := true) o_sub (c_int (0)) (ESim.b (c_int (1)))) (v_cons (v_dct0) (v_nil))))))))))) (ESim.b (v_op (nw := true) o_mod (v_op (nw := true) o_fdiv (v_var (i := 3) (by decide)) (ESim.b (c_int (6)))) (ESim.b (c_int (9)))))) (vg_n (i := 6) (by decide)))
    (v_seq (o1 := [1]) (v_kill (ks := [6]) (by decide) (v_if (by decide) (v_tst (ESim.b (v_op (nw := true) o_lt (v_op (nw := true) o_mod (v_var (i := 3) (by decide)) (ESim.b (c_int (6)))) (ESim.b (c_int (3))))))
     (v_ret (own2 := [1]) (by decide) (by decide) (by decide) (v_op (nw := true) o_add (v_op (nw := true) o_add (v_sl (nw := true) (v_var (i := 2) (by decide)) (vo_no) (vo_some (ESim.b (v_var (i := 5) (by decide))))) (ESim.b (v_tup (v_cons (v_var (i := 6) (by decide)) (v_nil))))) (ESim.b (v_sl (nw := true) (v_var (i := 2) (by decide)) (vo_some (ESim.b (v_op (nw := true) o_add (v_var (i := 5) (by decide)) (ESim.b (c_int (1)))))) (vo_no)))))
     (v_next (by decide))))
    (v_seq (o1 := [1]) (v_if (by decide) (v_tst (ESim.b (v_op (nw := true) o_eq (v_op (nw := true) o_mod (v_var (i := 3) (by decide)) (ESim.b (c_int (6)))) (ESim.b (c_int (3))))))
     (v_ret (own2 := [1]) (by decide) (by decide) (by decide) (v_un (nw := true) u_rev (ESim.b (v_var (i := 2) (by decide)))))
     (v_next (by decide)))
    (v_seq (o1 := [1]) (v_if (by decide) (v_tst (ESim.b (v_op (nw := true) o_eq (v_op (nw := true) o_mod (v_var (i := 3) (by decide)) (ESim.b (c_int (6)))) (ESim.b (c_int (4))))))
     (v_ret (own2 := [1]) (by decide) (by decide) (by decide) (v_op (nw := true) o_add (v_op (nw := true) o_add (v_sl (nw := true) (v_var (i := 2) (by decide)) (vo_no) (vo_some (ESim.b (v_var (i := 5) (by decide))))) (ESim.b (v_sl (nw := true) (v_var (i := 2) (by decide)) (vo_some (ESim.b (v_var (i := 5) (by decide)))) (vo_some (ESim.b (v_op (nw := true) o_add (v_var (i := 5) (by decide)) (ESim.b (c_int (1))))))))) (ESim.b (v_sl (nw := true) (v_var (i := 2) (by decide)) (vo_some (ESim.b (v_var (i := 5) (by decide)))) (vo_no)))))
     (v_next (by decide)))
    (v_ret (own2 := [1]) (by decide) (by decide) (by decide) (v_op (nw := false) o_ix (v_lst (v_cons (v_op (nw := true) o_add (v_sl (nw := true) (v_var (i := 2) (by decide)) (vo_no) (vo_some (ESim.b (v_var (i := 5) (by decide))))) (ESim.b (v_sl (nw := true) (v_var (i := 2) (by decide)) (vo_some (ESim.b (v_op (nw := true) o_add (v_var (i := 5) (by decide)) (ESim.b (c_int (1)))))) (vo_no)))) (v_cons (v_fn (nw := true) n_list (b_cons (v_var (i := 2) (by decide)) (ASim.b v_nil))) (v_nil)))) (ESim.b (v_op (nw := true) o_mod (v_op (nw := true) o_fdiv (v_var (i := 3) (by decide)) (ESim.b (c_int (6)))) (ESim.b (c_int (2)))))))))))))
theorem sim__law_same {Z : Bs} : FSim Z [] (r__law_same) V__law_same := f_run (N := ["found", "due"]) (n := 2) (w := w__law_same) (v := v__law_same) <|
    v_ret (own2 := []) (by decide) (by decide) (by decide) (v_op (nw := true) o_eq (v_fn (nw := true) n_rep (b_cons (v_var (i := 0) (by decide)) (ASim.b v_nil))) (ESim.b (v_fn (nw := true) n_rep (b_cons (v_op (nw := true) o_mul (v_lst (v_cons (v_var (i := 1) (by decide)) (v_nil))) (ESim.b (v_fn (nw := true) n_len (b_cons (v_var (i := 0) (by decide)) (ASim.b v_nil))))) (ASim.b v_nil)))))
theorem sim__law_told : ToldSim r__law_told (V__law_told tb) := told_run (N := ["deed", "error", "found", "e", "kinds", "bases", "at", "words"]) (w := w__law_told) (v := v__law_told tb) fun d lam =>
    v_seq (o1 := [2]) (v_parG (i := 1) (j := 2) (fl := [false, true]) rfl (by decide) (by decide) (by decide) (by decide) (na_val (c_non) (na_own (v_lst (v_nil)) (na_nil))))
    (v_seq (o1 := []) (v_try (i := 3) (oH := []) (by decide) (by decide) (by decide) (by decide) (by decide)
     (v_append (i := 2) (by decide) (by decide) (by decide) (v_deed d (by decide) rfl))
     (v_asg (by decide) (by decide) (v_var (i := 3) (by decide)) (vg_n (i := 1) (by decide))))
    (v_seq (o1 := []) (v_if (by decide) (v_tst (ESim.b (v_op (nw := true) o_is (v_var (i := 1) (by decide)) (ESim.b (c_non)))))
     (v_ret (own2 := []) (by decide) (by decide) (by decide) (v_var (i := 2) (by decide)))
     (v_next (by decide)))
    (v_seq (o1 := []) (v_asg (by decide) (by decide) (v_lst (v_cons (v_fn (nw := true) n_isi (b_cons (v_var (i := 1) (by decide)) (b_cons (c_glo ("InvalidPlace")) (ASim.b v_nil)))) (v_cons (v_fn (nw := true) n_isi (b_cons (v_var (i := 1) (by decide)) (b_cons (c_glo ("InvalidDistance")) (ASim.b v_nil)))) (v_nil)))) (vg_n (i := 4) (by decide)))
    (v_seq (o1 := []) (v_asg (by decide) (by decide) (v_op (nw := true) o_add (v_var (i := 4) (by decide)) (ESim.b (v_lst (v_cons (v_fn (nw := true) n_isi (b_cons (v_var (i := 1) (by decide)) (b_cons (c_glo ("InvalidBag")) (ASim.b v_nil)))) (v_cons (v_fn (nw := true) n_isi (b_cons (v_var (i := 1) (by decide)) (b_cons (c_glo ("InvalidRow")) (ASim.b v_nil)))) (v_nil)))))) (vg_n (i := 4) (by decide)))
    (v_seq (o1 := []) (v_asg (by decide) (by decide) (v_op (nw := true) o_add (v_var (i := 4) (by decide)) (ESim.b (v_lst (v_cons (v_fn (nw := true) n_isi (b_cons (v_var (i := 1) (by decide)) (b_cons (c_glo ("InvalidNumber")) (ASim.b v_nil)))) (v_cons (v_fn (nw := true) n_isi (b_cons (v_var (i := 1) (by decide)) (b_cons (c_glo ("NoStone")) (ASim.b v_nil)))) (v_nil)))))) (vg_n (i := 4) (by decide)))
    (v_seq (o1 := []) (v_asg (by decide) (by decide) (v_op (nw := true) o_add (v_var (i := 4) (by decide)) (ESim.b (v_lst (v_cons (v_fn (nw := true) n_isi (b_cons (v_var (i := 1) (by decide)) (b_cons (c_glo ("TooManyStones")) (ASim.b v_nil)))) (v_cons (v_fn (nw := true) n_isi (b_cons (v_var (i := 1) (by decide)) (b_cons (c_glo ("OutOfBounds")) (ASim.b v_nil)))) (v_nil)))))) (vg_n (i := 4) (by decide)))
    (v_seq (o1 := []) (v_asg (by decide) (by decide) (v_lst (v_cons (v_fn (nw := true) n_isi (b_cons (v_var (i := 1) (by decide)) (b_cons (c_glo ("StoneError")) (ASim.b v_nil)))) (v_cons (v_fn (nw := true) n_isi (b_cons (v_var (i := 1) (by decide)) (b_cons (c_ty ("ValueError")) (ASim.b v_nil)))) (v_nil)))) (vg_n (i := 5) (by decide)))
    (v_seq (o1 := []) (v_asg (by decide) (by decide) (v_op (nw := true) o_add (v_var (i := 5) (by decide)) (ESim.b (v_lst (v_cons (v_fn (nw := true) n_isi (b_cons (v_var (i := 1) (by decide)) (b_cons (c_glo ("WalkError")) (ASim.b v_nil)))) (v_cons (v_fn (nw := true) n_isi (b_cons (v_var (i := 1) (by decide)) (b_cons (c_ty ("RuntimeError")) (ASim.b v_nil)))) (v_nil)))))) (vg_n (i := 5) (by decide)))
    (v_seq (o1 := []) (v_asg (by decide) (by decide) (v_ifE (v_tst (ESim.b (v_op (nw := true) o_eq (v_bm (nw := true) k_count (v_var (i := 4) (by decide)) (b_cons (c_bl (true)) (ASim.b v_nil))) (ESim.b (c_int (1)))))) (v_bm (nw := true) k_index (v_var (i := 4) (by decide)) (b_cons (c_bl (true)) (ASim.b v_nil))) (c_int (9))) (vg_n (i := 6) (by decide)))
    (v_seq (o1 := []) (v_if (by decide) (v_orT (v_tst (ESim.b (v_op (nw := true) o_eq (v_var (i := 6) (by decide)) (ESim.b (c_int (9)))))) (v_tst (ESim.b (v_op (nw := true) o_ne (v_var (i := 5) (by decide)) (ESim.b (v_lst (v_cons (v_op (nw := true) o_lt (v_var (i := 6) (by decide)) (ESim.b (c_int (5)))) (v_cons (v_op (nw := true) o_lt (v_var (i := 6) (by decide)) (ESim.b (c_int (5)))) (v_cons (v_op (nw := true) o_gt (v_var (i := 6) (by decide)) (ESim.b (c_int (4)))) (v_cons (v_op (nw := true) o_gt (v_var (i := 6) (by decide)) (ESim.b (c_int (4)))) (v_nil)))))))))))
     (v_ret (own2 := []) (by decide) (by decide) (by decide) (v_tup (v_cons (c_str ("other")) (v_nil))))
     (v_next (by decide)))
    (v_seq (o1 := []) (v_if (by decide) (v_orT (v_tst (ESim.b (v_op (nw := true) o_eq (v_var (i := 6) (by decide)) (ESim.b (c_int (2)))))) (v_tst (ESim.b (v_op (nw := true) o_eq (v_var (i := 6) (by decide)) (ESim.b (c_int (3)))))))
     (v_ret (own2 := []) (by decide) (by decide) (by decide) (v_tup (v_cons (v_op (nw := false) o_ix (v_lst (v_cons (c_str ("bag")) (v_cons (c_str ("row")) (v_nil)))) (ESim.b (v_op (nw := true) o_sub (v_var (i := 6) (by decide)) (ESim.b (c_int (2)))))) (v_cons (v_xf (v_var (i := 1) (by decide))) (v_nil)))))
     (v_next (by decide)))
    (v_seq (o1 := []) (v_if (by decide) (v_tst (ESim.b (v_op (nw := true) o_eq (v_var (i := 6) (by decide)) (ESim.b (c_int (6))))))
     (v_ret (own2 := []) (by decide) (by decide) (by decide) (v_tup (v_cons (c_str ("many")) (v_cons (v_xf (v_var (i := 1) (by decide))) (v_nil)))))
     (v_next (by decide)))
    (v_seq (o1 := []) (v_asg (by decide) (by decide) (v_lst (v_cons (c_str ("place")) (v_cons (c_str ("distance")) (v_cons (c_str ("")) (v_cons (c_str ("")) (v_cons (c_str ("number")) (v_cons (c_str ("stone")) (v_cons (c_str ("")) (v_cons (c_str ("bounds")) (v_nil)))))))))) (vg_n (i := 7) (by decide)))
    (v_ret (own2 := []) (by decide) (by decide) (by decide) (v_tup (v_cons (v_op (nw := false) o_ix (v_var (i := 7) (by decide)) (ESim.b (v_var (i := 6) (by decide)))) (v_cons (v_xf (v_var (i := 1) (by decide))) (v_nil))))))))))))))))))
theorem sim__law_wrong {Z : Bs} : FSim Z [] (r__law_wrong) V__law_wrong := f_run (N := ["thing", "k"]) (n := 1) (w := w__law_wrong) (v := v__law_wrong) <|
    v_seq (o1 := []) (v_if (by decide) (v_orT (v_notT (v_tst (ESim.b (v_fn (nw := true) n_isi (b_cons (v_var (i := 0) (by decide)) (b_cons (c_ty ("tuple")) (ASim.b v_nil))))))) (v_orT (v_tst (ESim.b (v_op (nw := true) o_lt (v_fn (nw := true) n_len (b_cons (v_var (i := 0) (by decide)) (ASim.b v_nil))) (ESim.b (c_int (1)))))) (v_tst (ESim.b (v_op (nw := true) o_gt (v_fn (nw := true) n_len (b_cons (v_var (i := 0) (by decide)) (ASim.b v_nil))) (ESim.b (c_int (41))))))))
     (v_ret (own2 := []) (by decide) (by decide) (by decide) (v_lst (v_cons (c_non) (v_nil))))
     (v_next (by decide)))
    (v_seq (o1 := []) (v_kill (ks := [1]) (by decide) (v_for (by decide) (by decide) (i_rng1 (v_cons (v_fn (nw := true) n_len (b_cons (v_var (i := 0) (by decide)) (ASim.b v_nil))) (v_nil))) (vg_n (i := 1) (by decide))
     (v_kill (ks := [1]) (by decide) (v_if (by decide) (v_orT (v_notT (v_tst (ESim.b (v_fn (nw := true) n_isi (b_cons (v_op (nw := false) o_ix (v_var (i := 0) (by decide)) (ESim.b (v_var (i := 1) (by decide)))) (b_cons (c_ty ("int")) (ASim.b v_nil))))))) (v_tst (ESim.b (v_fn (nw := true) n_isi (b_cons (v_op (nw := false) o_ix (v_var (i := 0) (by decide)) (ESim.b (v_var (i := 1) (by decide)))) (b_cons (c_ty ("bool")) (ASim.b v_nil)))))))
      (v_ret (own2 := []) (by decide) (by decide) (by decide) (v_lst (v_cons (v_var (i := 1) (by decide)) (v_nil))))
      (v_next (by decide))))))
    (v_ret (own2 := []) (by decide) (by decide) (by decide) (v_ifE (v_tst (ESim.b (v_op (nw := true) o_eq (v_op (nw := false) o_ix (v_var (i := 0) (by decide)) (ESim.b (v_op (nw := true) o_sub (v_fn (nw := true) n_len (b_cons (v_var (i := 0) (by decide)) (ASim.b v_nil))) (ESim.b (c_int (1)))))) (ESim.b (c_int (1)))))) (v_lst (v_nil)) (v_lst (v_cons (c_str ("last")) (v_nil))))))
theorem sim_is_integer {Z : Bs} : FSim Z [] (r_is_integer) V_is_integer := f_run (N := ["value", "least", "most"]) (n := 3) (w := w_is_integer) (v := v_is_integer) <|
    v_seq (o1 := []) (v_if (by decide) (v_orT (v_notT (v_tst (ESim.b (v_fn (nw := true) n_isi (b_cons (v_var (i := 0) (by decide)) (b_cons (c_ty ("int")) (ASim.b v_nil))))))) (v_tst (ESim.b (v_fn (nw := true) n_isi (b_cons (v_var (i := 0) (by decide)) (b_cons (c_ty ("bool")) (ASim.b v_nil)))))))
     (v_ret (own2 := []) (by decide) (by decide) (by decide) (c_bl (false)))
     (v_next (by decide)))
    (v_ret (own2 := []) (by decide) (by decide) (by decide) (v_andV (v_orV (v_op (nw := true) o_is (v_var (i := 1) (by decide)) (ESim.b (c_non))) (v_op (nw := true) o_ge (v_var (i := 0) (by decide)) (ESim.b (v_var (i := 1) (by decide))))) (v_orV (v_op (nw := true) o_is (v_var (i := 2) (by decide)) (ESim.b (c_non))) (v_op (nw := true) o_le (v_var (i := 0) (by decide)) (ESim.b (v_var (i := 2) (by decide)))))))
theorem sim_check_row {Z : Bs} : FSim Z [] (r_check_row) V_check_row := f_run (N := ["value", "index", "entry"]) (n := 1) (w := w_check_row) (v := v_check_row) <|
    v_seq (o1 := []) (v_if (by decide) (v_orT (v_notT (v_tst (ESim.b (v_fn (nw := true) n_isi (b_cons (v_var (i := 0) (by decide)) (b_cons (c_ty ("tuple")) (ASim.b v_nil))))))) (v_notT (v_tst (ESim.b (v_chain (n3 := true) o_le o_le (c_int (1)) (v_fn (nw := true) n_len (b_cons (v_var (i := 0) (by decide)) (ASim.b v_nil))) (ESim.b (v_op (nw := true) o_add (c_int (40)) (ESim.b (c_int (1))))))))))
     (v_raise (dV := [.non]) (fun _ _ => ⟨_, _, rfl, rfl, rfl⟩) (by decide) (v_nil))
     (v_next (by decide)))
    (v_seq (o1 := []) (v_for (by decide) (by decide) (i_enum (v_cons (v_var (i := 0) (by decide)) (v_nil))) (vg_T (vgs_cons (vg_n (i := 1) (by decide)) (vgs_cons (vg_n (i := 2) (by decide)) (vgs_nil))))
     (v_if (by decide) (v_notT (v_tst (ESim.b (v_call (idx := [0, 1, 2]) (ios := []) (slots := []) (d := [.non, .non]) (dM := [.non, .non]) (sp := [none]) (rr := r_is_integer) (sim_is_integer) (fun _ _ => ⟨_, _, rfl, rfl, ⟨_, _, rfl, rfl, rfl⟩⟩) (c_cons (v_var (i := 2) (by decide)) (c_nil)) (by decide) (by decide) (by decide) rfl))))
      (v_raise (dV := []) (fun _ _ => rfl) (by decide) (v_cons (v_var (i := 1) (by decide)) (v_nil)))
      (v_next (by decide))))
    (v_if (by decide) (v_tst (ESim.b (v_op (nw := true) o_ne (v_op (nw := false) o_ix (v_var (i := 0) (by decide)) (ESim.b (v_un (nw := true) u_neg (ESim.b (c_int (1)))))) (ESim.b (c_int (1))))))
     (v_raise (dV := []) (fun _ _ => rfl) (by decide) (v_cons (c_str ("last")) (v_nil)))
     (v_next (by decide))))
theorem sim_height_of {Z : Bs} : FSim Z [] (r_height_of) V_height_of := f_run (N := ["row"]) (n := 1) (w := w_height_of) (v := v_height_of) <|
    v_seq (o1 := []) (v_drop (by decide) (by decide) (v_call (idx := [0]) (ios := []) (slots := []) (d := []) (dM := []) (sp := [none]) (rr := r_check_row) (sim_check_row) (fun _ _ => rfl) (c_cons (v_var (i := 0) (by decide)) (c_nil)) (by decide) (by decide) (by decide) rfl))
    (v_ret (own2 := []) (by decide) (by decide) (by decide) (v_op (nw := false) o_ix (v_var (i := 0) (by decide)) (ESim.b (c_int (0)))))
theorem sim_is_row {Z : Bs} : FSim Z [] (r_is_row) V_is_row := f_run (N := ["value", "entry"]) (n := 1) (w := w_is_row) (v := v_is_row) <|
    v_seq (o1 := []) (v_if (by decide) (v_orT (v_notT (v_tst (ESim.b (v_fn (nw := true) n_isi (b_cons (v_var (i := 0) (by decide)) (b_cons (c_ty ("tuple")) (ASim.b v_nil))))))) (v_notT (v_tst (ESim.b (v_chain (n3 := true) o_le o_le (c_int (1)) (v_fn (nw := true) n_len (b_cons (v_var (i := 0) (by decide)) (ASim.b v_nil))) (ESim.b (v_op (nw := true) o_add (c_int (40)) (ESim.b (c_int (1))))))))))
     (v_ret (own2 := []) (by decide) (by decide) (by decide) (c_bl (false)))
     (v_next (by decide)))
    (v_ret (own2 := []) (by decide) (by decide) (by decide) (v_andV (v_fn (nw := true) n_all (b_cons (v_comp (tg := (.one 1)) (vs := [1]) (by decide) (by decide) (i_seq (v_var (i := 0) (by decide))) (t_yes) (v_call (idx := [0, 1, 2]) (ios := []) (slots := []) (d := [.non, .non]) (dM := [.non, .non]) (sp := [none]) (rr := r_is_integer) (sim_is_integer) (fun _ _ => ⟨_, _, rfl, rfl, ⟨_, _, rfl, rfl, rfl⟩⟩) (c_cons (v_var (i := 1) (by decide)) (c_nil)) (by decide) (by decide) (by decide) rfl)) (ASim.b v_nil))) (v_op (nw := true) o_eq (v_op (nw := false) o_ix (v_var (i := 0) (by decide)) (ESim.b (v_un (nw := true) u_neg (ESim.b (c_int (1)))))) (ESim.b (c_int (1))))))
theorem sim_size_of {Z : Bs} : FSim Z [] (r_size_of) V_size_of := f_run (N := ["row"]) (n := 1) (w := w_size_of) (v := v_size_of) <|
    v_seq (o1 := []) (v_drop (by decide) (by decide) (v_call (idx := [0]) (ios := []) (slots := []) (d := []) (dM := []) (sp := [none]) (rr := r_check_row) (sim_check_row) (fun _ _ => rfl) (c_cons (v_var (i := 0) (by decide)) (c_nil)) (by decide) (by decide) (by decide) rfl))
    (v_ret (own2 := []) (by decide) (by decide) (by decide) (v_op (nw := true) o_sub (v_fn (nw := true) n_len (b_cons (v_var (i := 0) (by decide)) (ASim.b v_nil))) (ESim.b (c_int (1)))))
theorem sim__law_right {Z : Bs} {T : Str → Addr} (tz : TZ T Z) : FSim Z [] (r__law_right T) (V__law_right tb) := f_run (N := ["thing", "wrong", "kept", "due", "found"]) (n := 1) (w := w__law_right T) (v := v__law_right tb) <|
    v_seq (o1 := []) (v_par (i := 1) (j := 2) (by decide) (by decide) (by decide) (by decide) (v_cons (v_call (idx := [0]) (ios := []) (slots := []) (d := []) (dM := []) (sp := [none]) (rr := r__law_wrong) (sim__law_wrong) (fun _ _ => rfl) (c_cons (v_var (i := 0) (by decide)) (c_nil)) (by decide) (by decide) (by decide) rfl) (v_cons (v_fn (nw := true) n_rep (b_cons (v_var (i := 0) (by decide)) (ASim.b v_nil))) (v_nil))))
    (v_seq (o1 := []) (v_if (by decide) (v_notT (v_tst (ESim.b (v_call (idx := [0, 1]) (ios := []) (slots := []) (d := []) (dM := []) (sp := [none, none]) (rr := r__law_same) (sim__law_same) (fun _ _ => rfl) (c_cons (v_lst (v_cons (v_call (idx := [0]) (ios := []) (slots := []) (d := []) (dM := []) (sp := [none]) (rr := r_is_row) (sim_is_row) (fun _ _ => rfl) (c_cons (v_var (i := 0) (by decide)) (c_nil)) (by decide) (by decide) (by decide) rfl) (v_cons (v_callK (idx := [0]) (ios := []) (slots := []) (d := []) (dM := []) (sp := []) (spk := [none]) (rr := r_is_row) (sim_is_row) (fun _ _ => rfl) (c_nil) (c_cons (v_var (i := 0) (by decide)) (c_nil)) (cp_cons (ep_var) (cp_nil)) (by decide) (by decide) (by decide) rfl rfl) (v_nil)))) (c_cons (v_op (nw := true) o_eq (v_var (i := 1) (by decide)) (ESim.b (v_lst (v_nil)))) (c_nil))) (by decide) (by decide) (by decide) rfl))))
     (v_ret (own2 := []) (by decide) (by decide) (by decide) (c_bl (false)))
     (v_next (by decide)))
    (v_seq (o1 := []) (v_asg (by decide) (by decide) (v_ifE (v_tst (ESim.b (v_op (nw := true) o_eq (v_var (i := 1) (by decide)) (ESim.b (v_lst (v_nil)))))) (v_lst (v_cons (c_non) (v_nil))) (v_tup (v_cons (c_str ("row")) (v_cons (v_op (nw := false) o_ix (v_var (i := 1) (by decide)) (ESim.b (c_int (0)))) (v_nil))))) (vg_n (i := 3) (by decide)))
    (v_seq (o1 := [4]) (v_asgO (i := 4) (by decide) (by decide) (by decide) (by decide) (v_lst (v_cons (v_lam (tz "_law_right" (by simp [lamDefs])) sim__law_told (v_call (idx := [0]) (ios := []) (slots := []) (d := []) (dM := []) (sp := [none]) (rr := r_check_row) (sim_check_row) (fun _ _ => rfl) (c_cons (v_var (i := 0) (by decide)) (c_nil)) (by decide) (by decide) (by decide) rfl)) (v_nil))))
    (v_seq (o1 := []) (v_append (i := 4) (by decide) (by decide) (by decide) (v_lam (tz "_law_right" (by simp [lamDefs])) sim__law_told (v_callK (idx := [0]) (ios := []) (slots := []) (d := []) (dM := []) (sp := []) (spk := [none]) (rr := r_check_row) (sim_check_row) (fun _ _ => rfl) (c_nil) (c_cons (v_var (i := 0) (by decide)) (c_nil)) (cp_cons (ep_var) (cp_nil)) (by decide) (by decide) (by decide) rfl rfl)))
    (v_seq (o1 := []) (v_kill (ks := [3, 4]) (by decide) (v_if (by decide) (v_notT (v_tst (ESim.b (v_call (idx := [0, 1]) (ios := []) (slots := []) (d := []) (dM := []) (sp := [none, none]) (rr := r__law_same) (sim__law_same) (fun _ _ => rfl) (c_cons (v_var (i := 4) (by decide)) (c_cons (v_var (i := 3) (by decide)) (c_nil))) (by decide) (by decide) (by decide) rfl))))
     (v_ret (own2 := []) (by decide) (by decide) (by decide) (c_bl (false)))
     (v_next (by decide))))
    (v_seq (o1 := []) (v_asg (by decide) (by decide) (v_ifE (v_tst (ESim.b (v_op (nw := true) o_eq (v_var (i := 1) (by decide)) (ESim.b (v_lst (v_nil)))))) (v_lst (v_cons (v_op (nw := true) o_sub (v_fn (nw := true) n_len (b_cons (v_var (i := 0) (by decide)) (ASim.b v_nil))) (ESim.b (c_int (1)))) (v_nil))) (v_tup (v_cons (c_str ("row")) (v_cons (v_op (nw := false) o_ix (v_var (i := 1) (by decide)) (ESim.b (c_int (0)))) (v_nil))))) (vg_n (i := 3) (by decide)))
    (v_seq (o1 := [4]) (v_asgO (i := 4) (by decide) (by decide) (by decide) (by decide) (v_lst (v_cons (v_lam (tz "_law_right" (by simp [lamDefs])) sim__law_told (v_call (idx := [0]) (ios := []) (slots := []) (d := []) (dM := []) (sp := [none]) (rr := r_size_of) (sim_size_of) (fun _ _ => rfl) (c_cons (v_var (i := 0) (by decide)) (c_nil)) (by decide) (by decide) (by decide) rfl)) (v_nil))))
    (v_seq (o1 := []) (v_append (i := 4) (by decide) (by decide) (by decide) (v_lam (tz "_law_right" (by simp [lamDefs])) sim__law_told (v_callK (idx := [0]) (ios := []) (slots := []) (d := []) (dM := []) (sp := []) (spk := [none]) (rr := r_size_of) (sim_size_of) (fun _ _ => rfl) (c_nil) (c_cons (v_var (i := 0) (by decide)) (c_nil)) (cp_cons (ep_var) (cp_nil)) (by decide) (by decide) (by decide) rfl rfl)))
    (v_seq (o1 := []) (v_kill (ks := [3, 4]) (by decide) (v_if (by decide) (v_notT (v_tst (ESim.b (v_call (idx := [0, 1]) (ios := []) (slots := []) (d := []) (dM := []) (sp := [none, none]) (rr := r__law_same) (sim__law_same) (fun _ _ => rfl) (c_cons (v_var (i := 4) (by decide)) (c_cons (v_var (i := 3) (by decide)) (c_nil))) (by decide) (by decide) (by decide) rfl))))
     (v_ret (own2 := []) (by decide) (by decide) (by decide) (c_bl (false)))
     (v_next (by decide))))
    (v_seq (o1 := []) (v_kill (ks := [1]) (by decide) (v_asg (by decide) (by decide) (v_ifE (v_tst (ESim.b (v_op (nw := true) o_eq (v_var (i := 1) (by decide)) (ESim.b (v_lst (v_nil)))))) (v_lst (v_cons (v_op (nw := false) o_ix (v_var (i := 0) (by decide)) (ESim.b (c_int (0)))) (v_nil))) (v_tup (v_cons (c_str ("row")) (v_cons (v_op (nw := false) o_ix (v_var (i := 1) (by decide)) (ESim.b (c_int (0)))) (v_nil))))) (vg_n (i := 3) (by decide))))
    (v_seq (o1 := [4]) (v_asgO (i := 4) (by decide) (by decide) (by decide) (by decide) (v_lst (v_cons (v_lam (tz "_law_right" (by simp [lamDefs])) sim__law_told (v_call (idx := [0]) (ios := []) (slots := []) (d := []) (dM := []) (sp := [none]) (rr := r_height_of) (sim_height_of) (fun _ _ => rfl) (c_cons (v_var (i := 0) (by decide)) (c_nil)) (by decide) (by decide) (by decide) rfl)) (v_nil))))
    (v_seq (o1 := []) (v_append (i := 4) (by decide) (by decide) (by decide) (v_lam (tz "_law_right" (by simp [lamDefs])) sim__law_told (v_callK (idx := [0]) (ios := []) (slots := []) (d := []) (dM := []) (sp := []) (spk := [none]) (rr := r_height_of) (sim_height_of) (fun _ _ => rfl) (c_nil) (c_cons (v_var (i := 0) (by decide)) (c_nil)) (cp_cons (ep_var) (cp_nil)) (by decide) (by decide) (by decide) rfl rfl)))
    (v_ret (own2 := []) (by decide) (by decide) (by decide) (v_andV (v_call (idx := [0, 1]) (ios := []) (slots := []) (d := []) (dM := []) (sp := [none, none]) (rr := r__law_same) (sim__law_same) (fun _ _ => rfl) (c_cons (v_var (i := 4) (by decide)) (c_cons (v_var (i := 3) (by decide)) (c_nil))) (by decide) (by decide) (by decide) rfl) (v_op (nw := true) o_eq (v_fn (nw := true) n_rep (b_cons (v_var (i := 0) (by decide)) (ASim.b v_nil))) (ESim.b (v_var (i := 2) (by decide))))))))))))))))))
theorem sim_law {Z : Bs} {T : Str → Addr} (tz : TZ T Z) : FSim Z [] (r_law T) (V_law tb) := f_run (N := ["script", "spot", "turn", "held", "bent", "twice", "thing", "wide", "some"]) (n := 1) (w := w_law T) (v := v_law tb) <|
    v_seq (o1 := [1]) (v_asgO (i := 1) (by decide) (by decide) (by decide) (by decide) (v_lst (v_cons (c_int (0)) (v_nil))))
    (v_seq (o1 := []) (v_kill (ks := [0, 1, 2, 3, 4, 5, 6]) (by decide) (v_for (by decide) (by decide) (i_rng1 (v_cons (v_op (nw := true) o_add (c_int (3)) (ESim.b (v_fn (nw := true) n_min2 (b_cons (c_int (9)) (b_cons (v_fn (nw := true) n_len (b_cons (v_var (i := 0) (by decide)) (ASim.b v_nil))) (ASim.b v_nil)))))) (v_nil))) (vg_n (i := 2) (by decide))
     (v_seq (o1 := [1]) (v_kill (ks := [2]) (by decide) (v_asg (by decide) (by decide) (v_call (idx := [0, 1]) (ios := [1]) (slots := [1]) (d := []) (dM := []) (sp := [none, some 1]) (rr := r__law_any) (sim__law_any) (fun _ _ => rfl) (c_cons (v_var (i := 0) (by decide)) (c_own (i := 1) (c_nil))) (by decide) (by decide) (by decide) rfl) (vg_n (i := 3) (by decide))))
     (v_seq (o1 := [1]) (v_par (i := 4) (j := 5) (by decide) (by decide) (by decide) (by decide) (v_cons (v_call (idx := [0, 1, 2]) (ios := [1]) (slots := [1]) (d := []) (dM := []) (sp := [none, some 1, none]) (rr := r__law_bent) (sim__law_bent) (fun _ _ => rfl) (c_cons (v_var (i := 0) (by decide)) (c_own (i := 1) (c_cons (v_var (i := 3) (by decide)) (c_nil)))) (by decide) (by decide) (by decide) rfl) (v_cons (c_non) (v_nil))))
     (v_seq (o1 := [1]) (v_if (by decide) (v_tst (ESim.b (v_fn (nw := true) n_isi (b_cons (v_var (i := 4) (by decide)) (b_cons (c_ty ("tuple")) (ASim.b v_nil))))))
      (v_asg (by decide) (by decide) (v_call (idx := [0, 1, 2]) (ios := [1]) (slots := [1]) (d := []) (dM := []) (sp := [none, some 1, none]) (rr := r__law_bent) (sim__law_bent) (fun _ _ => rfl) (c_cons (v_var (i := 0) (by decide)) (c_own (i := 1) (c_cons (v_var (i := 4) (by decide)) (c_nil)))) (by decide) (by decide) (by decide) rfl) (vg_n (i := 5) (by decide)))
      (v_next (by decide)))
     (v_kill (ks := [3, 4, 5, 6]) (by decide) (v_for (by decide) (by decide) (i_seq (v_tup (v_cons (v_var (i := 3) (by decide)) (v_cons (v_var (i := 4) (by decide)) (v_cons (v_var (i := 5) (by decide)) (v_cons (v_var (i := 3) (by decide)) (v_cons (v_fn (nw := true) n_list (b_cons (v_var (i := 3) (by decide)) (ASim.b v_nil))) (v_nil)))))))) (vg_n (i := 6) (by decide))
      (v_kill (ks := [6]) (by decide) (v_if (by decide) (v_notT (v_tst (ESim.b (v_call (idx := [0]) (ios := []) (slots := []) (d := []) (dM := []) (sp := [none]) (rr := r__law_right T) (sim__law_right tz) (fun _ _ => rfl) (c_cons (v_var (i := 6) (by decide)) (c_nil)) (by decide) (by decide) (by decide) rfl))))
       (v_less (own' := []) (by decide) (v_ret (own2 := []) (by decide) (by decide) (by decide) (c_bl (false))))
       (v_next (by decide)))))))))))
    (v_seq (o1 := []) (v_asg (by decide) (by decide) (v_op (nw := true) o_mul (v_tup (v_cons (c_int (3)) (v_nil))) (ESim.b (c_int (40)))) (vg_n (i := 7) (by decide)))
    (v_seq (o1 := []) (v_kill (ks := [7]) (by decide) (v_asg (by decide) (by decide) (v_lst (v_cons (v_op (nw := true) o_add (v_var (i := 7) (by decide)) (ESim.b (v_tup (v_cons (c_int (1)) (v_nil))))) (v_cons (v_op (nw := true) o_add (v_var (i := 7) (by decide)) (ESim.b (v_tup (v_cons (c_int (3)) (v_cons (c_int (1)) (v_nil)))))) (v_cons (v_tup (v_cons (c_int (1)) (v_nil))) (v_cons (v_tup (v_cons (c_int (0)) (v_nil))) (v_cons (v_tup (v_nil)) (v_cons (c_non) (v_cons (c_int (1)) (v_cons (c_str ("row")) (v_cons (v_dct0) (v_cons (c_bl (true)) (v_nil)))))))))))) (vg_n (i := 8) (by decide))))
    (v_ret (own2 := []) (by decide) (by decide) (by decide) (v_fn (nw := true) n_all (b_cons (v_comp (tg := (.one 6)) (vs := [6]) (by decide) (by decide) (i_seq (v_op (nw := true) o_add (v_var (i := 8) (by decide)) (ESim.b (v_lst (v_cons (v_lst (v_cons (c_int (1)) (v_nil))) (v_cons (v_tup (v_cons (v_tup (v_cons (c_int (1)) (v_nil))) (v_nil))) (v_cons (v_tup (v_cons (c_int (1)) (v_cons (c_bl (true)) (v_nil)))) (v_nil)))))))) (t_yes) (v_call (idx := [0]) (ios := []) (slots := []) (d := []) (dM := []) (sp := [none]) (rr := r__law_right T) (sim__law_right tz) (fun _ _ => rfl) (c_cons (v_var (i := 6) (by decide)) (c_nil)) (by decide) (by decide) (by decide) rfl)) (ASim.b v_nil)))))))
theorem tz_of {T : Str → Addr} {Z : Bs} (H : ∀ (i : Nat) p, (lamDefs.map fun x => (T x, qLam x))[i]? = some p → ∃ k : Nat, Z.b[k]? = some (.tab p.1 p.2)) : TZ T Z := fun x hx => by
  obtain ⟨i, hi⟩ := List.mem_iff_getElem?.mp hx
  exact H i (T x, qLam x) (by rw [List.getElem?_map, hi]; rfl)
theorem law_by (T : Str → Addr) (ns : List Int) (e : V_law tb [.rol (ns.map .int)] = .ok (.bl true) []) : r_law T [.ref 0] (mh0 ns (lamDefs.map fun x => (T x, qLam x))) (fun m _ => m = .bl true) fun _ _ => False :=
  law_of (fun Z H => sim_law (tz_of H)) e
end Lw
end
section
set_option maxHeartbeats 1000000
namespace Vn
open PySem PySem.Spec PyProof.Rows L2 Mn
open L2 (atI ixN)
/-! ### more equations -/
theorem e_runV (N n : Nat) (ios : List Nat) (b : VSt) (args : List PV) : runV N n ios b args = if args.length = n then finV ios (b (startV N args)) else .bad := eq_of_heq HEq.rfl
def fin1K (o : Option (Option PV)) (v : PV) : FR := match o with
  | some (some x) => .ok v [x]
  | _ => .bad
def fin1X (o : Option (Option PV)) (v : PV) : FR := match o with
  | some (some x) => .xc v [x]
  | _ => .bad
theorem e_fin1_rt (i : Nat) (v : PV) (s : VS) : finV [i] (.rt v s) = fin1K s[i]? v := by
  simp only [finV, ioAll, ioOut, List.all_cons, List.all_nil, List.map_cons, List.map_nil, Bool.and_true, fin1K]
  rcases s[i]? with _ | _ | x <;> simp
theorem e_fin1_nx (i : Nat) (s : VS) : finV [i] (.nx s) = fin1K s[i]? .non := by
  simp only [finV, ioAll, ioOut, List.all_cons, List.all_nil, List.map_cons, List.map_nil, Bool.and_true, fin1K]
  rcases s[i]? with _ | _ | x <;> simp
theorem e_fin1_xc (i : Nat) (v : PV) (s : VS) : finV [i] (.xc v s) = fin1X s[i]? v := by
  simp only [finV, ioAll, ioOut, List.all_cons, List.all_nil, List.map_cons, List.map_nil, Bool.and_true, fin1X]
  rcases s[i]? with _ | _ | x <;> simp
theorem e_fin1K (v x : PV) : fin1K (some (some x)) v = .ok v [x] := eq_of_heq HEq.rfl
theorem e_fin1X (v x : PV) : fin1X (some (some x)) v = .xc v [x] := eq_of_heq HEq.rfl
theorem e_tstK (b : Bool) (s : VS) : opt (tst (.bl b)) s = .ok b s := eq_of_heq HEq.rfl
/-! equality of plain values -/
theorem e_vEq_int (i j : Int) : vEq (.int i) (.int j) = some (.bl (decide (i = j))) := by
  show some (PV.bl (i == j)) = _
  rfl
theorem e_vNe_int (i j : Int) : vNe (.int i) (.int j) = some (.bl (decide (¬ i = j))) := by
  show some (PV.bl (!(i == j))) = _
  rw [decide_not]; rfl
theorem e_vEq_bl (a b : Bool) : vEq (.bl a) (.bl b) = some (.bl (a == b)) := eq_of_heq HEq.rfl
theorem e_vNe_bl (a b : Bool) : vNe (.bl a) (.bl b) = some (.bl (!(a == b))) := eq_of_heq HEq.rfl
theorem e_vEq_str (a b : Str) : vEq (.str a) (.str b) = some (.bl (a == b)) := eq_of_heq HEq.rfl
theorem e_vNe_str (a b : Str) : vNe (.str a) (.str b) = some (.bl (!(a == b))) := eq_of_heq HEq.rfl
theorem e_vIs_non : vIs .non .non = some (.bl true) := eq_of_heq HEq.rfl
theorem e_vIs_int (i : Int) : vIs (.int i) .non = some (.bl false) := eq_of_heq HEq.rfl
theorem e_vIs_tup (xs : List PV) : vIs (.tup xs) .non = some (.bl false) := eq_of_heq HEq.rfl
theorem e_vIs_lst (xs : List PV) : vIs (.lst xs) .non = some (.bl false) := eq_of_heq HEq.rfl
theorem e_vIs_bl (b : Bool) : vIs (.bl b) .non = some (.bl false) := eq_of_heq HEq.rfl
theorem e_vIsNot_non : vIsNot .non .non = some (.bl false) := eq_of_heq HEq.rfl
theorem e_vIsNot_int (i : Int) : vIsNot (.int i) .non = some (.bl true) := eq_of_heq HEq.rfl
theorem e_vIsNot_tup (xs : List PV) : vIsNot (.tup xs) .non = some (.bl true) := eq_of_heq HEq.rfl
theorem e_vIsNot_lst (xs : List PV) : vIsNot (.lst xs) .non = some (.bl true) := eq_of_heq HEq.rfl
/-! type tests -/
theorem isi_eq {xt : Str → M → Option Bool} {x : PV} {t T : String} (h : tyV x = some t) (hT : T ∈ tyList) (hx : ∀ C ks vs, x ≠ .exc C ks vs) : isiV xt [x, .ty T] = some (.bl (isa t T)) := by
  cases x <;> first | (exact absurd rfl (hx _ _ _)) | (simp only [isiV, h, if_pos hT])
theorem ti_int (i : Int) : isiV xt0 [.int i, .ty "int"] = some (.bl true) := rfl
theorem ti_bool (i : Int) : isiV xt0 [.int i, .ty "bool"] = some (.bl false) := rfl
theorem ti_str (i : Int) : isiV xt0 [.int i, .ty "str"] = some (.bl false) := rfl
theorem ti_tuple (i : Int) : isiV xt0 [.int i, .ty "tuple"] = some (.bl false) := rfl
theorem tb_int (b : Bool) : isiV xt0 [.bl b, .ty "int"] = some (.bl true) := rfl
theorem tb_bool (b : Bool) : isiV xt0 [.bl b, .ty "bool"] = some (.bl true) := rfl
theorem tb_tuple (b : Bool) : isiV xt0 [.bl b, .ty "tuple"] = some (.bl false) := rfl
theorem tt_int (xs : List PV) : isiV xt0 [.tup xs, .ty "int"] = some (.bl false) := rfl
theorem tt_tuple (xs : List PV) : isiV xt0 [.tup xs, .ty "tuple"] = some (.bl true) := rfl
theorem tt_str (xs : List PV) : isiV xt0 [.tup xs, .ty "str"] = some (.bl false) := rfl
theorem tl_tuple (xs : List PV) : isiV xt0 [.lst xs, .ty "tuple"] = some (.bl false) := rfl
theorem tl_int (xs : List PV) : isiV xt0 [.lst xs, .ty "int"] = some (.bl false) := rfl
theorem ts_tuple (t : Str) : isiV xt0 [.str t, .ty "tuple"] = some (.bl false) := rfl
theorem ts_int (t : Str) : isiV xt0 [.str t, .ty "int"] = some (.bl false) := rfl
theorem ts_str (t : Str) : isiV xt0 [.str t, .ty "str"] = some (.bl true) := rfl
theorem tn_tuple : isiV xt0 [.non, .ty "tuple"] = some (.bl false) := rfl
theorem tn_int : isiV xt0 [.non, .ty "int"] = some (.bl false) := rfl
theorem tn_str : isiV xt0 [.non, .ty "str"] = some (.bl false) := rfl
theorem td_tuple (xs : List (PV × PV)) : isiV xt0 [.dct xs, .ty "tuple"] = some (.bl false) := rfl
theorem td_int (xs : List (PV × PV)) : isiV xt0 [.dct xs, .ty "int"] = some (.bl false) := rfl
/-! items by number -/
theorem atI_zero {α : Type} (x : α) (r : List α) : atI (x :: r) 0 = some x := by
  rw [show (0 : Int) = ((0 : Nat) : Int) from rfl, atI_nat]; rfl
theorem atI_one {α : Type} (x y : α) (r : List α) : atI (x :: y :: r) 1 = some y := by
  rw [show (1 : Int) = ((1 : Nat) : Int) from rfl, atI_nat]; rfl
theorem atI_two {α : Type} (x y z : α) (r : List α) : atI (x :: y :: z :: r) 2 = some z := by
  rw [show (2 : Int) = ((2 : Nat) : Int) from rfl, atI_nat]; rfl
theorem atI_map {α β : Type} (f : α → β) (l : List α) (i : Int) : atI (l.map f) i = (atI l i).map f := by
  unfold atI ixN
  rw [List.length_map]
  split
  · split
    · exact List.getElem?_map
    · rfl
  · split
    · exact List.getElem?_map
    · rfl
theorem atI_neg {α : Type} {l : List α} (h : l ≠ []) : atI l (-1) = l.getLast? := by
  have hl : 0 < l.length := List.length_pos_iff.mpr h
  unfold atI ixN
  rw [if_neg (by omega), if_pos (by omega)]
  show l[((-1 : Int) + (l.length : Int)).toNat]? = _
  rw [List.getLast?_eq_getElem?]
  congr 1
  omega
/-! slices -/
theorem sIx_nn {n d : Nat} {i : Int} (h : 0 ≤ i) : HT.sIx n d (some i) = min i.toNat n := by
  show (if i < 0 then (i + (n : Int)).toNat else min i.toNat n) = _
  rw [if_neg (by omega)]
theorem cut_from {xs : List PV} {i : Int} (h : 0 ≤ i) : cutV' xs (some i) none = xs.drop i.toNat := by
  unfold cutV'
  rw [sIx_nn h, HT.sIx_none]
  by_cases hl : i.toNat ≤ xs.length
  · rw [Nat.min_eq_left hl, List.take_of_length_le (by rw [List.length_drop]; omega)]
  · rw [Nat.min_eq_right (by omega), List.drop_of_length_le (by omega : xs.length ≤ i.toNat), Nat.sub_self]
    simp
theorem cut_to {xs : List PV} {i : Int} (h : 0 ≤ i) : cutV' xs none (some i) = xs.take i.toNat := by
  unfold cutV'
  rw [sIx_nn h, HT.sIx_none, List.drop_zero, Nat.sub_zero]
  by_cases hl : i.toNat ≤ xs.length
  · rw [Nat.min_eq_left hl]
  · rw [Nat.min_eq_right (by omega), List.take_of_length_le (Nat.le_refl _), List.take_of_length_le (by omega)]
theorem cut_both {xs : List PV} {i j : Int} (h : 0 ≤ i) (h2 : 0 ≤ j) : cutV' xs (some i) (some j) = (xs.drop i.toNat).take (j.toNat - i.toNat) := by
  unfold cutV'
  rw [sIx_nn h, sIx_nn h2]
  by_cases hl : i.toNat ≤ xs.length
  · rw [Nat.min_eq_left hl]
    by_cases hj : j.toNat ≤ xs.length
    · rw [Nat.min_eq_left hj]
    · rw [Nat.min_eq_right (show xs.length ≤ j.toNat by omega), List.take_of_length_le (by rw [List.length_drop]; omega), List.take_of_length_le (by rw [List.length_drop]; omega)]
  · rw [Nat.min_eq_right (show xs.length ≤ i.toNat by omega), List.drop_of_length_le (show xs.length ≤ i.toNat by omega), List.drop_of_length_le (Nat.le_refl _), List.take_nil, List.take_nil]
theorem cut_all {xs : List PV} : cutV' xs none none = xs := by
  unfold cutV'
  rw [HT.sIx_none, HT.sIx_none, List.drop_zero, Nat.sub_zero, List.take_length]
theorem cut_less1 {xs : List PV} : cutV' xs none (some (-1)) = xs.dropLast := by
  unfold cutV'
  rw [HT.sIx_none, List.drop_zero, Nat.sub_zero, List.dropLast_eq_take]
  congr 1
  show (if (-1 : Int) < 0 then ((-1 : Int) + (xs.length : Int)).toNat else min (-1 : Int).toNat xs.length) = _
  rw [if_pos (by decide)]; omega
theorem sl_tup (xs : List PV) (lo hi : Option Int) : slV (.tup xs) lo hi = some (.tup (cutV' xs lo hi)) := eq_of_heq HEq.rfl
theorem sl_lst (xs : List PV) (lo hi : Option Int) : slV (.lst xs) lo hi = some (.lst (cutV' xs lo hi)) := eq_of_heq HEq.rfl
theorem cut_1 (x : PV) (xs : List PV) : cutV' (x :: xs) (some 1) none = xs := by rw [cut_from (by decide)]; rfl
/-! sums of lists and tuples -/
theorem vAdd_lst {xs ys : List PV} (h : xs.length + ys.length ≤ 16777216) : vAdd (.lst xs) (.lst ys) = some (.lst (xs ++ ys)) := if_pos h
theorem vAdd_tup {xs ys : List PV} (h : xs.length + ys.length ≤ 16777216) : vAdd (.tup xs) (.tup ys) = some (.tup (xs ++ ys)) := if_pos h
theorem tuple_lst (l : List PV) : tupleV (.lst l) = some (.tup l) := eq_of_heq HEq.rfl
theorem tuple_tup (l : List PV) : tupleV (.tup l) = some (.tup l) := eq_of_heq HEq.rfl
theorem list_lst (l : List PV) : listV (.lst l) = some (.lst l) := eq_of_heq HEq.rfl
theorem list_tup (l : List PV) : listV (.tup l) = some (.lst l) := eq_of_heq HEq.rfl
/-! enumerations -/
def enumI (k : Nat) : List PV → List PV
  | [] => []
  | x :: r => .tup [.int (k : Int), x] :: enumI (k + 1) r
theorem enumI_eq : ∀ (xs : List PV) (k : Nat), enumI k xs = (List.range xs.length).map fun i => .tup [.int ((k + i : Nat) : Int), xs.getD i .non]
  | [], k => rfl
  | x :: r, k => by
    rw [enumI, List.length_cons, List.range_succ_eq_map, List.map_cons, List.map_map, enumI_eq r (k + 1)]
    refine congr (congrArg _ rfl) (List.map_congr_left fun i _ => ?_)
    simp only [Function.comp]
    rw [show k + 1 + i = k + i.succ by omega]
    rfl
theorem enumV_eq (xs : List PV) : enumV xs = enumI 0 xs := by
  rw [enumI_eq]
  unfold enumV
  refine List.map_congr_left fun i _ => ?_
  rw [Nat.zero_add]
theorem e_enum_tup (xs : List PV) : enum1 [.tup xs] = some (enumI 0 xs) := by rw [← enumV_eq]; rfl
theorem e_enum_lst (xs : List PV) : enum1 [.lst xs] = some (enumI 0 xs) := by rw [← enumV_eq]; rfl
theorem e_enumI_nil (k : Nat) : enumI k [] = [] := rfl
theorem e_enumI_cons (k : Nat) (x : PV) (r : List PV) : enumI k (x :: r) = .tup [.int (k : Int), x] :: enumI (k + 1) r := rfl
end Vn
namespace Vn
open PySem PySem.Spec PyProof.Rows L2 Mn
theorem vPow_l {i j : Int} (h0 : 0 ≤ j) (h : j ≤ 1000) (hi : i.natAbs < 2 ^ 1000) : vPow (.int i) (.int j) = some (.int (i ^ j.toNat)) := by
  have := vPow_sm (i := i) j.toNat hi (by omega)
  rwa [Int.toNat_of_nonneg h0] at this
theorem vMul_sm {z y : Int} (h1 : -1361129467683753853853498429727072845824 < z) (h2 : z < 1361129467683753853853498429727072845824) (h3 : -1361129467683753853853498429727072845824 < y) (h4 : y < 1361129467683753853853498429727072845824) : vMul (.int z) (.int y) = some (.int (z * y)) := vMul_int (small_ok ⟨h1, h2⟩ ⟨h3, h4⟩)
theorem vFdiv_l {i j : Int} (h : 0 < j) (h2 : j < 1606938044258990275541962092341162602522202993782792835301376) : vFdiv (.int i) (.int j) = some (.int (i / j)) := vFdiv_sm h h2
theorem rng1_l {j : Int} (h0 : 0 ≤ j) (h : j < 1000000) : rng1 [.int j] = some (rngV 0 j.toNat) := rng1_eq h0 (by omega)
theorem rng2_l {i j : Int} (h0 : -1000000 ≤ i) (h1 : i ≤ 1000000) (h2 : -1000000 ≤ j) (h3 : j < 1000000) : rng2 [.int i, .int j] = some (rngV i (j - i).toNat) := rng2_eq ⟨by omega, by omega⟩ ⟨by omega, by omega⟩
end Vn
end
section
set_option maxHeartbeats 2000000
namespace Dn
open PySem PySem.Spec PyProof.Rows Mn Vn
open L2 (atI ixN)
local macro_rules | `(tactic| walk_at "ve") => `(tactic| first | done | try simp only [e_vSeq, e_vIf, e_vAsg, e_vgN, e_vAsgO, e_isObj_lst, e_isObj_dct, e_vRet, e_vDrop, e_vNext, e_vBrk, e_vCnt, e_vTst, e_vOp, e_vOpL, e_vCon, e_vUn, e_vAndT, e_vOrT, e_vNotT, e_vAndV_t, e_vOrV_t, e_vNotE_t, e_andK_bl, e_orK_bl, e_notK_bl, e_vIfE, e_vChain_t, e_chK_bl, e_vNil, e_vCons, e_vConsL, e_vConsO, e_vFn, e_vLst, e_vTup, e_vDct0, e_vCall, e_vBind, e_pick_nil, e_vFor, e_vIt, e_vSeqI, e_vSl, e_vSlL, e_voNo, e_voSome, e_intO, e_vSub, e_vLt, e_vLe, e_vGt, e_vGe, e_vAnd, e_vAddI, e_vNeg, e_vMin2, e_vMax2, e_itemsV_tup, e_itemsV_lst, e_itemsV_rol, e_lenV_tup, e_lenV_lst, e_lenV_rol, e_vPar_t, e_parK_2, e_vPar3_t, e_par3K_3, e_vRaise_t, e_raiK_1, e_vgT_t, e_vgL_t, e_vgsCons_t, e_vgsNil_t, e_setL, e_vAppend_t, e_appK_1, e_app2K_1, e_vPop_t, e_popK_1, e_pop2K_1, e_vReverse_t, e_revK_1, e_vSetSub_t, e_ssK_1, e_ss2K_1, e_ss3K_1, e_vAug_t, e_augK_1, e_vAugS_t, e_asK_1, e_as2K_1, e_as3K_1, e_as4K_1, e_as5K_1, e_vTry_t, e_tryK_nx, e_tryK_rt, e_suf_nx, e_suf_rt, e_vXf, e_vYes, e_vComp, e_vBm, e_refItems_lst, e_vVar_t, e_varK, e_ownL, e_ownK, e_pick0, e_pick1, e_pick2, e_pick3, e_pick4, e_startV, e_vAsgT, finV_rt0, finV_nx0, finV_xc0, st_ok, st_xc, seq_nx, seq_rt, seq_br, seq_ct, seq_xc, oS_some, tst_bl, opt_some, bind_ok, bind_xc, f1_eq, f2I_eq, toE_ok, toE_xc, setM_nil, setM_cons, vI_int, vAdd_int, ix_lst, ix_tup, ix_rol, List.getElem?_cons_zero, List.getElem?_cons_succ, List.set_cons_zero, List.set_cons_succ, List.length_cons, List.length_nil, List.cons_append, List.nil_append, List.append_nil, Option.bind_some, decide_eq_true_eq, Bool.not_eq_true', decide_eq_false_iff_not, if_true, List.map_cons, List.map_nil, Nat.sub_self, List.replicate_succ, List.replicate_zero, Nat.reduceAdd, Nat.reduceLeDiff, lt_sz0, lt_sz1, lt_sz2, lt_sz3, lt_sz4, lt_sz5, if_false, Bool.false_eq_true, Bool.true_eq_false, and_self, Bool.not_true, Bool.not_false])
local macro_rules | `(tactic| walk_at "fin") => `(tactic| first | done | try simp only [finV, ioAll, ioOut, List.all_cons, List.all_nil, List.map_cons, List.map_nil, List.getElem?_cons_zero, List.getElem?_cons_succ, Option.join_some, Option.isSome_some, Option.getD_some, Bool.and_self, if_true])
abbrev iv (l : List Int) : List PV := l.map PV.int
def Plc (z : Int) : Prop := -(10 ^ 30) ≤ z ∧ z ≤ 10 ^ 30
structure Bag (n : Nat) (l : List Int) : Prop where
  len : l.length ≤ n
  plc : ∀ z ∈ l, Plc z
  asc : l.Pairwise (· ≤ ·)
theorem Bag.mono {n m : Nat} {l : List Int} (b : Bag n l) (h : n ≤ m) : Bag m l := ⟨Nat.le_trans b.len h, b.plc, b.asc⟩
theorem isort_bag {n : Nat} {l : List Int} (h : l.length ≤ n) (p : ∀ z ∈ l, Plc z) : Bag n (isort l) :=
  ⟨by rw [(isort_perm l).length_eq]; exact h, fun z hz => p z ((isort_perm l).mem_iff.mp hz), isort_sorted l⟩
theorem isort_id {l : List Int} (h : l.Pairwise (· ≤ ·)) : isort l = l := sorted_unique (isort_perm l) (isort_sorted l) h
theorem sortV_ints (l : List Int) : sortV (.lst (iv l)) = some (.lst (iv (isort l))) := by
  show ((intsV (iv l)).map fun is => PV.lst ((isort is).map .int)) = _
  rw [intsV_map]; rfl
theorem tupleV_lst (l : List PV) : tupleV (.lst l) = some (.tup l) := rfl
theorem tupleV_tup (l : List PV) : tupleV (.tup l) = some (.tup l) := rfl
theorem listV_lst (l : List PV) : listV (.lst l) = some (.lst l) := rfl
theorem listV_tup (l : List PV) : listV (.tup l) = some (.lst l) := rfl
theorem iv_app (a b : List Int) : iv a ++ iv b = iv (a ++ b) := by simp
theorem iv_snoc (a : List Int) (z : Int) : iv a ++ [PV.int z] = iv (a ++ [z]) := by simp
theorem iv_at {l : List Int} {i : Nat} {x : PV} (h : (iv l)[i]? = some x) : ∃ z, x = .int z ∧ l[i]? = some z := by
  rw [List.getElem?_map] at h
  obtain ⟨z, hz, rfl⟩ := Option.map_eq_some_iff.mp h
  exact ⟨z, rfl, hz⟩
/-- one of a few -/
theorem pick_of {xs : List PV} {i : Int} (P : PV → Prop) (h0 : 0 ≤ i) (h1 : i < xs.length) (h : ∀ x ∈ xs, P x) : ∃ x, atI xs i = some x ∧ P x := by
  rw [atI_pos h0, List.getElem?_eq_getElem (by omega)]
  exact ⟨_, rfl, h _ (List.getElem_mem _)⟩
theorem vEq_int (i j : Int) : vEq (.int i) (.int j) = some (.bl (i == j)) := rfl
theorem vNe_int (i j : Int) : vNe (.int i) (.int j) = some (.bl (!(i == j))) := rfl
theorem vIs_non : vIs .non .non = some (.bl true) := rfl
theorem vIs_exc {C : Str} {ks : List Str} {vs : List PV} : vIs (.exc C ks vs) .non = some (.bl false) := rfl
theorem vIs_int (i : Int) : vIs (.int i) .non = some (.bl false) := rfl
theorem e_vAdd_lst' {xs ys : List PV} (h : xs.length + ys.length ≤ 16777216) : vAdd (.lst xs) (.lst ys) = some (.lst (xs ++ ys)) := if_pos h
theorem e_vAdd_tup {xs ys : List PV} (h : xs.length + ys.length ≤ 16777216) : vAdd (.tup xs) (.tup ys) = some (.tup (xs ++ ys)) := if_pos h
theorem cloop_sel {g : VG} {t : VT} {e : VE} {vs : List Nat} {s0 : VS} (p : PV → Bool) (f : PV → PV) : ∀ (xs acc : List PV), (∀ x ∈ xs, ∃ s1, g x s0 = some s1 ∧ t s1 = .ok (p x) s1 ∧ (p x = true → e s1 = .ok (f x) s1) ∧ wipeV s1 vs = s0) → acc.length + xs.length ≤ 16777216 →
    vCLoop g t e vs xs acc s0 = .ok (acc ++ (xs.filter p).map f) s0
  | [], acc, _, _ => by simp [vCLoop]
  | x :: xs, acc, h, hl => by
    obtain ⟨s1, h1, h2, h3, h4⟩ := h x List.mem_cons_self
    have ih := fun acc' hl' => cloop_sel p f xs acc' (fun y hy => h y (List.mem_cons_of_mem _ hy)) hl'
    unfold vCLoop
    rw [h1]
    simp only [h2]
    cases hp : p x with
    | true =>
      simp only [h3 hp]
      rw [if_pos (show acc.length < SZ by show acc.length < 16777216; simp at hl; omega), h4, ih _ (by simp at hl ⊢; omega)]
      simp [hp]
    | false =>
      simp only
      rw [h4, ih _ (by simp at hl ⊢; omega)]
      simp [hp]
theorem cloop_map {g : VG} {e : VE} {vs : List Nat} {s0 : VS} (f : PV → PV) (xs : List PV) (h : ∀ x ∈ xs, ∃ s1, g x s0 = some s1 ∧ e s1 = .ok (f x) s1 ∧ wipeV s1 vs = s0) (hl : xs.length ≤ 16777216) :
    vCLoop g vYes e vs xs [] s0 = .ok (xs.map f) s0 := by
  rw [cloop_sel (fun _ => true) f xs [] (fun x hx => by obtain ⟨s1, a, b, c⟩ := h x hx; exact ⟨s1, a, rfl, fun _ => b, c⟩) (by simpa using hl)]
  rw [List.filter_eq_self.mpr (fun _ _ => rfl)]; rfl
end Dn
end
section
set_option maxHeartbeats 4000000
namespace Dn
open PySem PySem.Spec PyProof.Rows L2 Mn Vn
noncomputable def v_is_place : VSt :=
    vRet (vCall V_is_integer [] (vBind [0, 1, 2] [] (vCons (vVar 0) (vNil)) (vCons (vUn vNeg (vCon (.int 1000000000000000000000000000000))) (vCons (vCon (.int 1000000000000000000000000000000)) (vNil)))))
noncomputable def V_is_place : VF := runV 1 1 [] v_is_place
end Dn
end
section
set_option maxHeartbeats 4000000
namespace Dn
open PySem PySem.Spec PyProof.Rows L2 Mn Vn
noncomputable def v_check_place_0a_0 : VSt :=
    vRaise "InvalidPlace" "value" [] (vCons (vVar 0) (vNil))
noncomputable def v_check_place : VSt :=
    vIf (vNotT (vTst (vCall V_is_place [] (vBind [0] [] (vCons (vVar 0) (vNil)) vNil))))
     (v_check_place_0a_0)
     (vNext)
noncomputable def V_check_place : VF := runV 1 1 [] v_check_place
end Dn
end
section
set_option maxHeartbeats 2000000
namespace Dn
open PySem PySem.Spec PyProof.Rows Mn Vn
open L2 (atI ixN)
local macro_rules | `(tactic| walk_at "ve") => `(tactic| first | done | try simp only [e_vSeq, e_vIf, e_vAsg, e_vgN, e_vAsgO, e_isObj_lst, e_isObj_dct, e_vRet, e_vDrop, e_vNext, e_vBrk, e_vCnt, e_vTst, e_vOp, e_vOpL, e_vCon, e_vUn, e_vAndT, e_vOrT, e_vNotT, e_vAndV_t, e_vOrV_t, e_vNotE_t, e_andK_bl, e_orK_bl, e_notK_bl, e_vIfE, e_vChain_t, e_chK_bl, e_vNil, e_vCons, e_vConsL, e_vConsO, e_vFn, e_vLst, e_vTup, e_vDct0, e_vCall, e_vBind, e_pick_nil, e_vFor, e_vIt, e_vSeqI, e_vSl, e_vSlL, e_voNo, e_voSome, e_intO, e_vSub, e_vLt, e_vLe, e_vGt, e_vGe, e_vAnd, e_vAddI, e_vNeg, e_vMin2, e_vMax2, e_itemsV_tup, e_itemsV_lst, e_itemsV_rol, e_lenV_tup, e_lenV_lst, e_lenV_rol, e_vPar_t, e_parK_2, e_vPar3_t, e_par3K_3, e_vRaise_t, e_raiK_1, e_vgT_t, e_vgL_t, e_vgsCons_t, e_vgsNil_t, e_setL, e_vAppend_t, e_appK_1, e_app2K_1, e_vPop_t, e_popK_1, e_pop2K_1, e_vReverse_t, e_revK_1, e_vSetSub_t, e_ssK_1, e_ss2K_1, e_ss3K_1, e_vAug_t, e_augK_1, e_vAugS_t, e_asK_1, e_as2K_1, e_as3K_1, e_as4K_1, e_as5K_1, e_vTry_t, e_tryK_nx, e_tryK_rt, e_suf_nx, e_suf_rt, e_vXf, e_vYes, e_vComp, e_vBm, e_refItems_lst, e_vVar_t, e_varK, e_ownL, e_ownK, e_pick0, e_pick1, e_pick2, e_pick3, e_pick4, e_startV, e_vAsgT, finV_rt0, finV_nx0, finV_xc0, st_ok, st_xc, seq_nx, seq_rt, seq_br, seq_ct, seq_xc, oS_some, tst_bl, opt_some, bind_ok, bind_xc, f1_eq, f2I_eq, toE_ok, toE_xc, setM_nil, setM_cons, vI_int, vAdd_int, ix_lst, ix_tup, ix_rol, List.getElem?_cons_zero, List.getElem?_cons_succ, List.set_cons_zero, List.set_cons_succ, List.length_cons, List.length_nil, List.cons_append, List.nil_append, List.append_nil, Option.bind_some, decide_eq_true_eq, Bool.not_eq_true', decide_eq_false_iff_not, if_true, List.map_cons, List.map_nil, Nat.sub_self, List.replicate_succ, List.replicate_zero, Nat.reduceAdd, Nat.reduceLeDiff, lt_sz0, lt_sz1, lt_sz2, lt_sz3, lt_sz4, lt_sz5, if_false, Bool.false_eq_true, Bool.true_eq_false, and_self, Bool.not_true, Bool.not_false])
local macro_rules | `(tactic| walk_at "fin") => `(tactic| first | done | try simp only [finV, ioAll, ioOut, List.all_cons, List.all_nil, List.map_cons, List.map_nil, List.getElem?_cons_zero, List.getElem?_cons_succ, Option.join_some, Option.isSome_some, Option.getD_some, Bool.and_self, if_true])
/-- any value that a program can pass -/
def Ord (x : PV) : Prop := ∃ t, tyV x = some t ∧ t ∈ tyList
theorem isi_ord {x : PV} (h : Ord x) (T : String) (hT : T ∈ tyList) : ∃ t, tyV x = some t ∧ isiV xt0 [x, .ty T] = some (.bl (isa t T)) := by
  obtain ⟨t, e, m⟩ := h
  refine ⟨t, e, ?_⟩
  cases x <;> first | (cases e; done) | (simp only [isiV, e, if_pos hT])
def optI : Option Int → PV
  | none => .non
  | some i => .int i
def inB (i : Int) (lo hi : Option Int) : Bool := (match lo with | none => true | some l => decide (l ≤ i)) && (match hi with | none => true | some l => decide (i ≤ l))
def isInt (x : PV) (lo hi : Option Int) : Bool := match x with
  | .int i => inB i lo hi
  | _ => false
theorem isi_int_int (i : Int) : isiV xt0 [.int i, .ty "int"] = some (.bl true) := rfl
theorem isi_int_bool (i : Int) : isiV xt0 [.int i, .ty "bool"] = some (.bl false) := rfl
theorem isi_bl_int (b : Bool) : isiV xt0 [.bl b, .ty "int"] = some (.bl true) := rfl
theorem isi_bl_bool (b : Bool) : isiV xt0 [.bl b, .ty "bool"] = some (.bl true) := rfl
theorem is_integer_eq {x : PV} (h : Ord x) (lo hi : Option Int) : V_is_integer [x, optI lo, optI hi] = .ok (.bl (isInt x lo hi)) [] := by
  have other : (∀ i, x ≠ .int i) → (∀ b, x ≠ .bl b) → isiV xt0 [x, .ty "int"] = some (.bl false) := by
    intro n1 n2
    obtain ⟨t, e, _⟩ := h
    cases x with
    | int i => exact absurd rfl (n1 i)
    | bl b => exact absurd rfl (n2 b)
    | opq => cases e
    | exc => cases e
    | glo => cases e
    | ty => cases e
    | _ => rfl
  unfold V_is_integer runV
  walk_at "ve"
  unfold v_is_integer v_is_integer_0a_0
  walk_at "ve"
  cases x with
  | int i =>
    rw [isi_int_int]
    walk_at "ve"
    rw [isi_int_bool]
    walk_at "ve"
    unfold v_is_integer_1
    cases lo with
    | none =>
      cases hi with
      | none =>
        unfold optI
        walk_at "ve"
        rw [vIs_non]
        walk_at "ve"
        walk_at "fin"
        rfl
      | some b =>
        unfold optI
        walk_at "ve"
        rw [vIs_non]
        walk_at "ve"
        rw [vIs_int]
        walk_at "ve"
        walk_at "fin"
        simp only [isInt, inB, Bool.true_and]
    | some a =>
      cases hi with
      | none =>
        unfold optI
        walk_at "ve"
        rw [vIs_int]
        walk_at "ve"
        simp only [isInt, inB, Bool.and_true]
        split
        · rename_i hc
          rw [vIs_non]
          walk_at "ve"
          walk_at "fin"
          rw [decide_eq_true hc]
        · rename_i hc
          walk_at "ve"
          rw [decide_eq_false hc]
      | some b =>
        unfold optI
        walk_at "ve"
        rw [vIs_int]
        walk_at "ve"
        simp only [isInt, inB]
        split
        · rename_i hc
          rw [vIs_int]
          walk_at "ve"
          walk_at "fin"
          rw [decide_eq_true hc, Bool.true_and]
        · rename_i hc
          walk_at "ve"
          rw [decide_eq_false hc, Bool.false_and]
  | bl b =>
    rw [isi_bl_int]
    walk_at "ve"
    rw [isi_bl_bool]
    walk_at "ve"
    walk_at "fin"
    rfl
  | _ =>
    rw [other (fun _ => PV.noConfusion) (fun _ => PV.noConfusion)]
    walk_at "ve"
    walk_at "fin"
    rfl
def isPl (x : PV) : Bool := isInt x (some (-(10 ^ 30))) (some (10 ^ 30))
theorem isPl_int {z : Int} : isPl (.int z) = true ↔ Plc z := by
  unfold isPl isInt inB Plc
  rw [Bool.and_eq_true, decide_eq_true_eq, decide_eq_true_eq]
theorem is_place_eq {x : PV} (h : Ord x) : V_is_place [x] = .ok (.bl (isPl x)) [] := by
  unfold V_is_place runV
  walk_at "ve"
  unfold v_is_place
  walk_at "ve"
  rw [show V_is_integer [x, .int (-1000000000000000000000000000000), .int 1000000000000000000000000000000] = .ok (.bl (isPl x)) [] from is_integer_eq h (some _) (some _)]
  walk_at "ve"
  walk_at "fin"
theorem check_place_eq {x : PV} (h : Ord x) : V_check_place [x] = if isPl x = true then .ok .non [] else .xc (.exc "InvalidPlace" ["value"] [x]) [] := by
  unfold V_check_place runV
  walk_at "ve"
  unfold v_check_place v_check_place_0a_0
  walk_at "ve"
  rw [is_place_eq h]
  walk_at "ve"
  cases isPl x <;> walk_at "ve" <;> walk_at "fin"
theorem ord_int (i : Int) : Ord (.int i) := ⟨_, rfl, by decide⟩
theorem ord_non : Ord .non := ⟨_, rfl, by decide⟩
theorem ord_bl (b : Bool) : Ord (.bl b) := ⟨_, rfl, by decide⟩
theorem ord_str (s : Str) : Ord (.str s) := ⟨_, rfl, by decide⟩
theorem ord_tup (xs : List PV) : Ord (.tup xs) := ⟨_, rfl, by decide⟩
theorem ord_lst (xs : List PV) : Ord (.lst xs) := ⟨_, rfl, by decide⟩
theorem ord_dct (xs : List (PV × PV)) : Ord (.dct xs) := ⟨_, rfl, by decide⟩
theorem check_place_ok {z : Int} (h : Plc z) : V_check_place [.int z] = .ok .non [] := by rw [check_place_eq (ord_int z), if_pos (isPl_int.mpr h)]
theorem check_place_bad {x : PV} (h : Ord x) (h2 : isPl x = false) : V_check_place [x] = .xc (.exc "InvalidPlace" ["value"] [x]) [] := by rw [check_place_eq h, if_neg (by rw [h2]; decide)]
end Dn
end
section
set_option maxHeartbeats 4000000
namespace Dn
open PySem PySem.Spec PyProof.Rows L2 Mn Vn
noncomputable def v_check_distance_0a_0 : VSt :=
    vRaise "InvalidDistance" "value" [] (vCons (vVar 0) (vNil))
noncomputable def v_check_distance : VSt :=
    vIf (vNotT (vTst (vCall V_is_integer [] (vBind [0, 1, 2] [] (vCons (vVar 0) (vNil)) (vCons (vUn vNeg (vCon (.int 2000000000000000000000000000000))) (vCons (vCon (.int 2000000000000000000000000000000)) (vNil)))))))
     (v_check_distance_0a_0)
     (vNext)
noncomputable def V_check_distance : VF := runV 1 1 [] v_check_distance
end Dn
end
section
set_option maxHeartbeats 2000000
namespace Dn
open PySem PySem.Spec PyProof.Rows Mn Vn
open L2 (atI ixN)
local macro_rules | `(tactic| walk_at "ve") => `(tactic| first | done | try simp only [e_vSeq, e_vIf, e_vAsg, e_vgN, e_vAsgO, e_isObj_lst, e_isObj_dct, e_vRet, e_vDrop, e_vNext, e_vBrk, e_vCnt, e_vTst, e_vOp, e_vOpL, e_vCon, e_vUn, e_vAndT, e_vOrT, e_vNotT, e_vAndV_t, e_vOrV_t, e_vNotE_t, e_andK_bl, e_orK_bl, e_notK_bl, e_vIfE, e_vChain_t, e_chK_bl, e_vNil, e_vCons, e_vConsL, e_vConsO, e_vFn, e_vLst, e_vTup, e_vDct0, e_vCall, e_vBind, e_pick_nil, e_vFor, e_vIt, e_vSeqI, e_vSl, e_vSlL, e_voNo, e_voSome, e_intO, e_vSub, e_vLt, e_vLe, e_vGt, e_vGe, e_vAnd, e_vAddI, e_vNeg, e_vMin2, e_vMax2, e_itemsV_tup, e_itemsV_lst, e_itemsV_rol, e_lenV_tup, e_lenV_lst, e_lenV_rol, e_vPar_t, e_parK_2, e_vPar3_t, e_par3K_3, e_vRaise_t, e_raiK_1, e_vgT_t, e_vgL_t, e_vgsCons_t, e_vgsNil_t, e_setL, e_vAppend_t, e_appK_1, e_app2K_1, e_vPop_t, e_popK_1, e_pop2K_1, e_vReverse_t, e_revK_1, e_vSetSub_t, e_ssK_1, e_ss2K_1, e_ss3K_1, e_vAug_t, e_augK_1, e_vAugS_t, e_asK_1, e_as2K_1, e_as3K_1, e_as4K_1, e_as5K_1, e_vTry_t, e_tryK_nx, e_tryK_rt, e_suf_nx, e_suf_rt, e_vXf, e_vYes, e_vComp, e_vBm, e_refItems_lst, e_vVar_t, e_varK, e_ownL, e_ownK, e_pick0, e_pick1, e_pick2, e_pick3, e_pick4, e_startV, e_vAsgT, finV_rt0, finV_nx0, finV_xc0, st_ok, st_xc, seq_nx, seq_rt, seq_br, seq_ct, seq_xc, oS_some, tst_bl, opt_some, bind_ok, bind_xc, f1_eq, f2I_eq, toE_ok, toE_xc, setM_nil, setM_cons, vI_int, vAdd_int, ix_lst, ix_tup, ix_rol, List.getElem?_cons_zero, List.getElem?_cons_succ, List.set_cons_zero, List.set_cons_succ, List.length_cons, List.length_nil, List.cons_append, List.nil_append, List.append_nil, Option.bind_some, decide_eq_true_eq, Bool.not_eq_true', decide_eq_false_iff_not, if_true, List.map_cons, List.map_nil, Nat.sub_self, List.replicate_succ, List.replicate_zero, Nat.reduceAdd, Nat.reduceLeDiff, lt_sz0, lt_sz1, lt_sz2, lt_sz3, lt_sz4, lt_sz5, if_false, Bool.false_eq_true, Bool.true_eq_false, and_self, Bool.not_true, Bool.not_false])
local macro_rules | `(tactic| walk_at "fin") => `(tactic| first | done | try simp only [finV, ioAll, ioOut, List.all_cons, List.all_nil, List.map_cons, List.map_nil, List.getElem?_cons_zero, List.getElem?_cons_succ, Option.join_some, Option.isSome_some, Option.getD_some, Bool.and_self, if_true])
theorem enumV_at {xs : List PV} {i : Nat} {y : PV} (h : (enumV xs)[i]? = some y) : ∃ x, xs[i]? = some x ∧ y = .tup [.int (i : Int), x] := by
  unfold enumV at h
  rw [List.getElem?_map] at h
  obtain ⟨j, hj, rfl⟩ := Option.map_eq_some_iff.mp h
  obtain ⟨h1, h2⟩ := List.getElem?_eq_some_iff.mp hj
  rw [List.length_range] at h1
  simp only [List.getElem_range] at h2
  subst h2
  exact ⟨xs[i], by simp, by rw [List.getD_eq_getElem?_getD, List.getElem?_eq_getElem h1]; rfl⟩
theorem enumV_len (xs : List PV) : (enumV xs).length = xs.length := by simp [enumV]
theorem enum1_tup (xs : List PV) : enum1 [.tup xs] = some (enumV xs) := rfl
theorem enum1_lst (xs : List PV) : enum1 [.lst xs] = some (enumV xs) := rfl
theorem isi_tup_tuple (xs : List PV) : isiV xt0 [.tup xs, .ty "tuple"] = some (.bl true) := rfl
theorem isi_no_tuple {x : PV} (h : Ord x) (hn : ∀ ys, x ≠ .tup ys) : isiV xt0 [x, .ty "tuple"] = some (.bl false) := by
  obtain ⟨t, e, m⟩ := h
  cases x with
  | tup ys => exact absurd rfl (hn ys)
  | opq => cases e
  | exc => cases e
  | glo => cases e
  | ty => cases e
  | _ => rfl
theorem atI_last {α : Type} {xs : List α} (h : xs ≠ []) : atI xs (-1) = xs.getLast? := by
  have hl : 0 < xs.length := List.length_pos_iff.mpr h
  unfold atI ixN
  rw [if_neg (by omega), if_pos (by omega)]
  show xs[((-1 : Int) + (xs.length : Int)).toNat]? = _
  rw [List.getLast?_eq_getElem?]
  congr 1
  omega
theorem enum_tg (a : PV) (o1 o2 : Option PV) (i x : PV) : vgT 2 (vgsCons (vgN 1) (vgsCons (vgN 2) vgsNil)) (.tup [i, x]) [some a, o1, o2] = some [some a, some i, some x] := rfl
section
variable {xs : List PV}
theorem row_start (h1 : 1 ≤ xs.length) (hl : xs.length ≤ 41) : V_check_row [.tup xs] = finV [] ((vLoop (vgT 2 (vgsCons (vgN 1) (vgsCons (vgN 2) vgsNil))) v_check_row_1a_0 (enumV xs) [some (.tup xs), none, none]).seq v_check_row_2) := by
  unfold V_check_row runV
  walk_at "ve"
  unfold v_check_row v_check_row_0a_0
  walk_at "ve"
  rw [isi_tup_tuple]
  walk_at "ve"
  rw [if_pos (show (1 : Int) ≤ (xs.length : Int) by omega)]
  walk_at "ve"
  rw [if_neg (show ¬ ¬ (xs.length : Int) ≤ 40 + 1 by omega)]
  walk_at "ve"
  unfold v_check_row_1
  walk_at "ve"
  rw [enum1_tup]
  walk_at "ve"
theorem row_step {j : Nat} {x : PV} (ho : Ord x) : v_check_row_1a_0 [some (.tup xs), some (.int (j : Int)), some x] = (if isInt x none none = true then .nx [some (.tup xs), some (.int (j : Int)), some x] else .xc (.exc "InvalidRow" ["position"] [.int (j : Int)]) [some (.tup xs), some (.int (j : Int)), some x]) := by
  unfold v_check_row_1a_0 v_check_row_1a0a_0
  walk_at "ve"
  rw [show V_is_integer [x, .non, .non] = _ from is_integer_eq ho none none]
  walk_at "ve"
  cases isInt x none none <;> walk_at "ve"
theorem row_loop (g : ∀ j, j < xs.length → ∃ z, xs[j]? = some (.int z)) : ∃ o1 o2, vLoop (vgT 2 (vgsCons (vgN 1) (vgsCons (vgN 2) vgsNil))) v_check_row_1a_0 (enumV xs) [some (.tup xs), none, none] = .nx [some (.tup xs), o1, o2] := by
  obtain ⟨s, e, o1, o2, rfl⟩ := loop_all (g := vgT 2 (vgsCons (vgN 1) (vgsCons (vgN 2) vgsNil))) (b := v_check_row_1a_0) (xs := enumV xs) (fun _ s => ∃ o1 o2, s = [some (.tup xs), o1, o2]) (s := [some (.tup xs), none, none]) ⟨_, _, rfl⟩ (by
    rintro i y s hy ⟨o1, o2, rfl⟩
    obtain ⟨x, hx, rfl⟩ := enumV_at hy
    obtain ⟨z, e⟩ := g i (List.getElem?_eq_some_iff.mp hx).1
    rw [hx] at e
    cases e
    exact ⟨_, [some (.tup xs), some (.int (i : Int)), some (.int z)], enum_tg _ _ _ _ _, .inl (by rw [row_step (ord_int z)]; rfl), _, _, rfl⟩)
  exact ⟨o1, o2, e⟩
theorem row_bad {i : Nat} (h1 : 1 ≤ xs.length) (hl : xs.length ≤ 41) (g : ∀ j, j < i → ∃ z, xs[j]? = some (.int z)) {x : PV} (hx : xs[i]? = some x) (ho : Ord x) (hb : isInt x none none = false) : V_check_row [.tup xs] = .xc (.exc "InvalidRow" ["position"] [.int (i : Int)]) [] := by
  rw [row_start h1 hl]
  have hi := (List.getElem?_eq_some_iff.mp hx).1
  have key := loop_till (g := vgT 2 (vgsCons (vgN 1) (vgsCons (vgN 2) vgsNil))) (b := v_check_row_1a_0) (xs := enumV xs) (fun k s => k ≤ i ∧ ∃ o1 o2, s = [some (.tup xs), o1, o2]) (fun r => ∃ s, r = .xc (.exc "InvalidRow" ["position"] [.int (i : Int)]) s) (s := [some (.tup xs), none, none]) ⟨Nat.zero_le _, _, _, rfl⟩ (by
    rintro k y s hy ⟨hk, o1, o2, rfl⟩
    obtain ⟨w, hw, rfl⟩ := enumV_at hy
    refine ⟨_, enum_tg _ _ _ _ _, ?_⟩
    by_cases hki : k = i
    · subst hki
      rw [hx] at hw
      cases hw
      exact .inr (.inr (.inr ⟨.exc "InvalidRow" ["position"] [.int (k : Int)], [some (.tup xs), some (.int (k : Int)), some x], by rw [row_step ho, hb]; rfl, _, rfl⟩))
    · obtain ⟨z, e⟩ := g k (by omega)
      rw [hw] at e
      cases e
      exact .inl ⟨[some (.tup xs), some (.int (k : Int)), some (.int z)], .inl (by rw [row_step (ord_int z)]; rfl), by omega, _, _, rfl⟩) (by
    rintro s ⟨hk, _⟩
    rw [enumV_len] at hk
    omega)
  obtain ⟨s, e⟩ := key
  rw [e]
  walk_at "ve"
end
theorem iv_get {l : List Int} {j : Nat} (h : j < (iv l).length) : ∃ z, (iv l)[j]? = some (.int z) := by
  rw [List.length_map] at h
  exact ⟨l[j], by rw [List.getElem?_map, List.getElem?_eq_getElem h]; rfl⟩
structure Row (l : List Int) : Prop where
  pos : 1 ≤ l.length
  len : l.length ≤ 41
  last : l.getLast? = some 1
theorem iv_last {l : List Int} {z : Int} (h : l.getLast? = some z) : atI (iv l) (-1) = some (.int z) := by
  have hne : l ≠ [] := by rintro rfl; cases h
  rw [atI_last (by simpa using hne), List.getLast?_map, h]; rfl
theorem check_row_ok {l : List Int} (r : Row l) : V_check_row [.tup (iv l)] = .ok .non [] := by
  rw [row_start (by simpa using r.pos) (by simpa using r.len)]
  obtain ⟨o1, o2, e⟩ := row_loop (xs := iv l) fun j hj => iv_get hj
  rw [e]
  walk_at "ve"
  unfold v_check_row_2 v_check_row_2a_0
  walk_at "ve"
  rw [iv_last r.last]
  walk_at "ve"
  rw [vNe_int, show (!((1 : Int) == 1)) = false from rfl]
  walk_at "ve"
theorem check_row_last {l : List Int} {z : Int} (h1 : 1 ≤ l.length) (hl : l.length ≤ 41) (h : l.getLast? = some z) (hz : z ≠ 1) : V_check_row [.tup (iv l)] = .xc (.exc "InvalidRow" ["position"] [.str "last"]) [] := by
  rw [row_start (by simpa using h1) (by simpa using hl)]
  obtain ⟨o1, o2, e⟩ := row_loop (xs := iv l) fun j hj => iv_get hj
  rw [e]
  walk_at "ve"
  unfold v_check_row_2 v_check_row_2a_0
  walk_at "ve"
  rw [iv_last h]
  walk_at "ve"
  rw [vNe_int, show (!(z == 1)) = true from by simp [hz]]
  walk_at "ve"
theorem check_row_form {x : PV} (h : Ord x) (hn : ∀ ys, x = .tup ys → ys.length = 0 ∨ 41 < ys.length) : V_check_row [x] = .xc (.exc "InvalidRow" ["position"] [.non]) [] := by
  unfold V_check_row runV
  walk_at "ve"
  unfold v_check_row v_check_row_0a_0
  walk_at "ve"
  by_cases ht : ∃ ys, x = .tup ys
  · obtain ⟨ys, rfl⟩ := ht
    rw [isi_tup_tuple]
    walk_at "ve"
    rcases hn ys rfl with e | e
    · rw [if_neg (show ¬ (1 : Int) ≤ (ys.length : Int) by omega)]
      walk_at "ve"
    · rw [if_pos (show (1 : Int) ≤ (ys.length : Int) by omega)]
      walk_at "ve"
      rw [if_pos (show ¬ (ys.length : Int) ≤ 40 + 1 by omega)]
      walk_at "ve"
  · rw [isi_no_tuple h fun ys e => ht ⟨ys, e⟩]
    walk_at "ve"
def Dst (z : Int) : Prop := -(2 * 10 ^ 30) ≤ z ∧ z ≤ 2 * 10 ^ 30
def isDs (x : PV) : Bool := isInt x (some (-(2 * 10 ^ 30))) (some (2 * 10 ^ 30))
theorem check_dist_eq {x : PV} (h : Ord x) : V_check_distance [x] = if isDs x = true then .ok .non [] else .xc (.exc "InvalidDistance" ["value"] [x]) [] := by
  unfold V_check_distance runV
  walk_at "ve"
  unfold v_check_distance v_check_distance_0a_0
  walk_at "ve"
  rw [show V_is_integer [x, .int (-2000000000000000000000000000000), .int 2000000000000000000000000000000] = .ok (.bl (isDs x)) [] from is_integer_eq h (some _) (some _)]
  walk_at "ve"
  cases isDs x <;> walk_at "ve"
theorem check_dist_ok {z : Int} (h : Dst z) : V_check_distance [.int z] = .ok .non [] := by
  rw [check_dist_eq (ord_int z), if_pos]
  unfold isDs isInt inB
  unfold Dst at h
  simp only [Bool.and_eq_true, decide_eq_true_eq]
  exact h
theorem check_dist_bad {x : PV} (h : Ord x) (h2 : isDs x = false) : V_check_distance [x] = .xc (.exc "InvalidDistance" ["value"] [x]) [] := by rw [check_dist_eq h, if_neg (by rw [h2]; decide)]
end Dn
end
section
set_option maxHeartbeats 2000000
namespace Dn
open PySem PySem.Spec PyProof.Rows Mn Vn
open L2 (atI ixN)
local macro_rules | `(tactic| walk_at "ve") => `(tactic| first | done | try simp only [e_vSeq, e_vIf, e_vAsg, e_vgN, e_vAsgO, e_isObj_lst, e_isObj_dct, e_vRet, e_vDrop, e_vNext, e_vBrk, e_vCnt, e_vTst, e_vOp, e_vOpL, e_vCon, e_vUn, e_vAndT, e_vOrT, e_vNotT, e_vAndV_t, e_vOrV_t, e_vNotE_t, e_andK_bl, e_orK_bl, e_notK_bl, e_vIfE, e_vChain_t, e_chK_bl, e_vNil, e_vCons, e_vConsL, e_vConsO, e_vFn, e_vLst, e_vTup, e_vDct0, e_vCall, e_vBind, e_pick_nil, e_vFor, e_vIt, e_vSeqI, e_vSl, e_vSlL, e_voNo, e_voSome, e_intO, e_vSub, e_vLt, e_vLe, e_vGt, e_vGe, e_vAnd, e_vAddI, e_vNeg, e_vMin2, e_vMax2, e_itemsV_tup, e_itemsV_lst, e_itemsV_rol, e_lenV_tup, e_lenV_lst, e_lenV_rol, e_vPar_t, e_parK_2, e_vPar3_t, e_par3K_3, e_vRaise_t, e_raiK_1, e_vgT_t, e_vgL_t, e_vgsCons_t, e_vgsNil_t, e_setL, e_vAppend_t, e_appK_1, e_app2K_1, e_vPop_t, e_popK_1, e_pop2K_1, e_vReverse_t, e_revK_1, e_vSetSub_t, e_ssK_1, e_ss2K_1, e_ss3K_1, e_vAug_t, e_augK_1, e_vAugS_t, e_asK_1, e_as2K_1, e_as3K_1, e_as4K_1, e_as5K_1, e_vTry_t, e_tryK_nx, e_tryK_rt, e_suf_nx, e_suf_rt, e_vXf, e_vYes, e_vComp, e_vBm, e_refItems_lst, e_vVar_t, e_varK, e_ownL, e_ownK, e_pick0, e_pick1, e_pick2, e_pick3, e_pick4, e_startV, e_vAsgT, finV_rt0, finV_nx0, finV_xc0, st_ok, st_xc, seq_nx, seq_rt, seq_br, seq_ct, seq_xc, oS_some, tst_bl, opt_some, bind_ok, bind_xc, f1_eq, f2I_eq, toE_ok, toE_xc, setM_nil, setM_cons, vI_int, vAdd_int, ix_lst, ix_tup, ix_rol, List.getElem?_cons_zero, List.getElem?_cons_succ, List.set_cons_zero, List.set_cons_succ, List.length_cons, List.length_nil, List.cons_append, List.nil_append, List.append_nil, Option.bind_some, decide_eq_true_eq, Bool.not_eq_true', decide_eq_false_iff_not, if_true, List.map_cons, List.map_nil, Nat.sub_self, List.replicate_succ, List.replicate_zero, Nat.reduceAdd, Nat.reduceLeDiff, lt_sz0, lt_sz1, lt_sz2, lt_sz3, lt_sz4, lt_sz5, if_false, Bool.false_eq_true, Bool.true_eq_false, and_self, Bool.not_true, Bool.not_false])
local macro_rules | `(tactic| walk_at "fin") => `(tactic| first | done | try simp only [finV, ioAll, ioOut, List.all_cons, List.all_nil, List.map_cons, List.map_nil, List.getElem?_cons_zero, List.getElem?_cons_succ, Option.join_some, Option.isSome_some, Option.getD_some, Bool.and_self, if_true])
/-- a value that can be told, and how long it is told -/
def Shw (x : PV) (B : Nat) : Prop := ∃ d, pdV 59 x = some d ∧ Sh d B
theorem pdV_mono : ∀ (n : Nat) (x : PV) (d : PyData), pdV n x = some d → pdV (n + 1) x = some d := by
  have all : ∀ n : Nat, (∀ (x : PV) (d : PyData), pdV n x = some d → pdV (n + 1) x = some d) → ∀ (xs : List PV) (ds : List PyData), pdVL (pdV n) xs = some ds → pdVL (pdV (n + 1)) xs = some ds := by
    intro n ih xs
    induction xs with
    | nil => intro ds e; exact e
    | cons x xs ihx =>
      intro ds e
      obtain ⟨d, rd, rfl, h1, h2⟩ := pdVL_cons e
      unfold pdVL
      rw [ih x d h1, ihx rd h2]
  intro n
  induction n with
  | zero => intro x d e; cases x <;> first | exact e | (simp [pdV] at e; done)
  | succ n ih =>
    intro x d e
    cases x with
    | tup xs =>
      have e : (pdVL (pdV n) xs).map PyData.tuple = some d := e
      obtain ⟨ds, h1, rfl⟩ := Option.map_eq_some_iff.mp e
      show (pdVL (pdV (n + 1)) xs).map PyData.tuple = _
      rw [all n ih xs ds h1]; rfl
    | lst xs =>
      have e : (pdVL (pdV n) xs).map PyData.list = some d := e
      obtain ⟨ds, h1, rfl⟩ := Option.map_eq_some_iff.mp e
      show (pdVL (pdV (n + 1)) xs).map PyData.list = _
      rw [all n ih xs ds h1]; rfl
    | dct ks => cases ks <;> exact e
    | _ => exact e
/-- the value at some depth -/
def ShD (n : Nat) (x : PV) (B : Nat) : Prop := ∃ d, pdV n x = some d ∧ Sh d B
theorem ShD.up {n : Nat} {x : PV} {B : Nat} (h : ShD n x B) : ShD (n + 1) x B := let ⟨d, a, b⟩ := h; ⟨d, pdV_mono n x d a, b⟩
theorem ShD.ups {n : Nat} {x : PV} {B : Nat} (h : ShD n x B) : ∀ k, ShD (n + k) x B
  | 0 => h
  | k + 1 => (ShD.ups h k).up
theorem ShD.to {n : Nat} {x : PV} {B : Nat} (h : ShD n x B) (m : Nat) (hm : n ≤ m := by decide) : ShD m x B := by
  have := h.ups (m - n)
  rwa [show n + (m - n) = m by omega] at this
theorem ShD.le {n : Nat} {x : PV} {B C : Nat} (h : ShD n x B) (hb : B ≤ C) : ShD n x C := let ⟨d, a, b⟩ := h; ⟨d, a, b.le hb⟩
theorem shd_non (n : Nat) : ShD n .non 4 := ⟨.none, by cases n <;> rfl, sh_non⟩
theorem shd_bl (n : Nat) (b : Bool) : ShD n (.bl b) 5 := ⟨.bool b, by cases n <;> rfl, sh_bl b⟩
theorem shd_int (n : Nat) {z : Int} {k : Nat} (h : z.natAbs < 2 ^ k) (hk : k ≤ 1920) (h0 : 0 < k := by decide) : ShD n (.int z) (k + 1) := ⟨.int z, by cases n <;> rfl, sh_int h hk h0⟩
theorem pdVL_all {n B : Nat} : ∀ {xs : List PV}, (∀ x ∈ xs, ShD n x B) → ∃ ds, pdVL (pdV n) xs = some ds ∧ ds.length = xs.length ∧ ∀ d ∈ ds, Sh d B
  | [], _ => ⟨[], rfl, rfl, fun _ h => (by cases h)⟩
  | x :: xs, h => by
    obtain ⟨d, e, s⟩ := h x List.mem_cons_self
    obtain ⟨ds, e2, l, s2⟩ := pdVL_all fun y hy => h y (List.mem_cons_of_mem _ hy)
    refine ⟨d :: ds, by unfold pdVL; rw [e, e2], by simp [l], fun y hy => ?_⟩
    rcases List.mem_cons.mp hy with rfl | hy
    · exact s
    · exact s2 y hy
theorem shd_tup {n B : Nat} {xs : List PV} (m : Nat) (h : ∀ x ∈ xs, ShD n x B) (hm : xs.length ≤ m) : ShD (n + 1) (.tup xs) (m * (B + 2) + 3) := by
  obtain ⟨ds, e, l, s⟩ := pdVL_all h
  exact ⟨.tuple ds, by show (pdVL (pdV n) xs).map PyData.tuple = _; rw [e]; rfl, sh_tup m s (by omega)⟩
theorem shd_lst {n B : Nat} {xs : List PV} (m : Nat) (h : ∀ x ∈ xs, ShD n x B) (hm : xs.length ≤ m) : ShD (n + 1) (.lst xs) (m * (B + 2) + 2) := by
  obtain ⟨ds, e, l, s⟩ := pdVL_all h
  exact ⟨.list ds, by show (pdVL (pdV n) xs).map PyData.list = _; rw [e]; rfl, sh_list m s (by omega)⟩
theorem shd_str (n : Nat) {s : Str} (h : (PyData.str s).showable = true) {B : Nat} (h2 : (PyData.shown (.str s)).length ≤ B) : ShD n (.str s) B := ⟨.str s, by cases n <;> rfl, h, h2⟩
theorem shd_dct (n : Nat) : ShD (n + 1) (.dct []) 2 := ⟨.dict [], rfl, by decide +kernel, by decide +kernel⟩
theorem repV_eq {x : PV} {B : Nat} (h : ShD 60 x B) (hB : B ≤ 16777216) : ∃ t, repV x = some (.str t) ∧ ∀ d, pdV 60 x = some d → t = d.shown := by
  obtain ⟨d, e, s⟩ := h
  refine ⟨d.shown, ?_, fun d' e' => ?_⟩
  · unfold repV
    rw [e]
    exact if_pos (s.rep hB)
  · rw [e] at e'; cases e'; rfl
theorem rep_same {x y : PV} {B : Nat} (h : ShD 60 x B) (hB : B ≤ 16777216) (e : x = y) : ∃ t, repV x = some (.str t) ∧ repV y = some (.str t) := by
  subst e
  obtain ⟨t, a, _⟩ := repV_eq h hB
  exact ⟨t, a, a⟩
theorem same_eq {n : Nat} {x : PV} {B : Nat} (h : ShD 59 x B) (hn : 0 < n) (hn2 : n ≤ 100) (hB : B ≤ 160000) : V__law_same [.lst (List.replicate n x), x] = .ok (.bl true) [] := by
  have hl : ShD 60 (.lst (List.replicate n x)) (n * (B + 2) + 2) := shd_lst (n := 59) n (fun y hy => by rw [(List.mem_replicate.mp hy).2]; exact h) (by simp)
  have hb : n * (B + 2) + 2 ≤ 16777216 := by
    have := Nat.mul_le_mul hn2 (show B + 2 ≤ 160002 by omega)
    omega
  obtain ⟨t, e, _⟩ := repV_eq hl hb
  unfold V__law_same runV
  walk_at "ve"
  unfold v__law_same
  walk_at "ve"
  rw [e]
  walk_at "ve"
  rw [show vMul (.lst [x]) (.int ((List.replicate n x).length : Int)) = some (.lst (List.replicate n x)) from by
    rw [List.length_replicate]
    unfold vMul
    show (if -(2 ^ 63) ≤ (n : Int) ∧ (n : Int) < 2 ^ 63 ∧ [x].length * (n : Int).toNat ≤ SZ then _ else _) = _
    rw [if_pos ⟨by omega, by omega, by rw [Int.toNat_natCast]; show 1 * n ≤ 16777216; omega⟩, Int.toNat_natCast]
    congr 2
    exact List.flatten_replicate_singleton]
  walk_at "ve"
  rw [e]
  walk_at "ve"
  rw [show vEq (.str t) (.str t) = some (.bl (t == t)) from rfl, beq_self_eq_true]
  walk_at "ve"
  walk_at "fin"
theorem same1 {x : PV} {B : Nat} (h : ShD 59 x B) (hB : B ≤ 160000) : V__law_same [.lst [x], x] = .ok (.bl true) [] := same_eq (n := 1) h (by decide) (by decide) hB
theorem same2 {x : PV} {B : Nat} (h : ShD 59 x B) (hB : B ≤ 160000) : V__law_same [.lst [x, x], x] = .ok (.bl true) [] := same_eq (n := 2) h (by decide) (by decide) hB
theorem same3 {x : PV} {B : Nat} (h : ShD 59 x B) (hB : B ≤ 160000) : V__law_same [.lst [x, x, x], x] = .ok (.bl true) [] := same_eq (n := 3) h (by decide) (by decide) hB
end Dn
end
section
set_option maxHeartbeats 2000000
namespace Dn
open PySem PySem.Spec PyProof.Rows Mn Vn
open L2 (atI ixN)
local macro_rules | `(tactic| walk_at "ve") => `(tactic| first | done | try simp only [e_vSeq, e_vIf, e_vAsg, e_vgN, e_vAsgO, e_isObj_lst, e_isObj_dct, e_vRet, e_vDrop, e_vNext, e_vBrk, e_vCnt, e_vTst, e_vOp, e_vOpL, e_vCon, e_vUn, e_vAndT, e_vOrT, e_vNotT, e_vAndV_t, e_vOrV_t, e_vNotE_t, e_andK_bl, e_orK_bl, e_notK_bl, e_vIfE, e_vChain_t, e_chK_bl, e_vNil, e_vCons, e_vConsL, e_vConsO, e_vFn, e_vLst, e_vTup, e_vDct0, e_vCall, e_vBind, e_pick_nil, e_vFor, e_vIt, e_vSeqI, e_vSl, e_vSlL, e_voNo, e_voSome, e_intO, e_vSub, e_vLt, e_vLe, e_vGt, e_vGe, e_vAnd, e_vAddI, e_vNeg, e_vMin2, e_vMax2, e_itemsV_tup, e_itemsV_lst, e_itemsV_rol, e_lenV_tup, e_lenV_lst, e_lenV_rol, e_vPar_t, e_parK_2, e_vPar3_t, e_par3K_3, e_vRaise_t, e_raiK_1, e_vgT_t, e_vgL_t, e_vgsCons_t, e_vgsNil_t, e_setL, e_vAppend_t, e_appK_1, e_app2K_1, e_vPop_t, e_popK_1, e_pop2K_1, e_vReverse_t, e_revK_1, e_vSetSub_t, e_ssK_1, e_ss2K_1, e_ss3K_1, e_vAug_t, e_augK_1, e_vAugS_t, e_asK_1, e_as2K_1, e_as3K_1, e_as4K_1, e_as5K_1, e_vTry_t, e_tryK_nx, e_tryK_rt, e_suf_nx, e_suf_rt, e_vXf, e_vYes, e_vComp, e_vBm, e_refItems_lst, e_vVar_t, e_varK, e_ownL, e_ownK, e_pick0, e_pick1, e_pick2, e_pick3, e_pick4, e_startV, e_vAsgT, finV_rt0, finV_nx0, finV_xc0, st_ok, st_xc, seq_nx, seq_rt, seq_br, seq_ct, seq_xc, oS_some, tst_bl, opt_some, bind_ok, bind_xc, f1_eq, f2I_eq, toE_ok, toE_xc, setM_nil, setM_cons, vI_int, vAdd_int, ix_lst, ix_tup, ix_rol, List.getElem?_cons_zero, List.getElem?_cons_succ, List.set_cons_zero, List.set_cons_succ, List.length_cons, List.length_nil, List.cons_append, List.nil_append, List.append_nil, Option.bind_some, decide_eq_true_eq, Bool.not_eq_true', decide_eq_false_iff_not, if_true, List.map_cons, List.map_nil, Nat.sub_self, List.replicate_succ, List.replicate_zero, Nat.reduceAdd, Nat.reduceLeDiff, lt_sz0, lt_sz1, lt_sz2, lt_sz3, lt_sz4, lt_sz5, if_false, Bool.false_eq_true, Bool.true_eq_false, and_self, Bool.not_true, Bool.not_false])
local macro_rules | `(tactic| walk_at "fin") => `(tactic| first | done | try simp only [finV, ioAll, ioOut, List.all_cons, List.all_nil, List.map_cons, List.map_nil, List.getElem?_cons_zero, List.getElem?_cons_succ, Option.join_some, Option.isSome_some, Option.getD_some, Bool.and_self, if_true])
def std8 : List Str := ["InvalidPlace", "InvalidDistance", "InvalidBag", "InvalidRow", "InvalidNumber", "NoStone", "TooManyStones", "OutOfBounds"]
def stdN : List Str := ["InvalidPlace", "InvalidDistance", "InvalidBag", "InvalidRow", "InvalidNumber", "NoStone", "TooManyStones", "OutOfBounds", "StoneError", "WalkError"]
def stdR (C x : Str) : Bool := decide (C = x) || (decide (x = "StoneError") && decide (C ∈ (["InvalidPlace", "InvalidDistance", "InvalidBag", "InvalidRow", "InvalidNumber"] : List Str))) || (decide (x = "WalkError") && decide (C ∈ (["NoStone", "TooManyStones", "OutOfBounds"] : List Str)))
def stdT (C : Str) (x : String) : Bool := (decide (x = "ValueError") && decide (C ∈ (["InvalidPlace", "InvalidDistance", "InvalidBag", "InvalidRow", "InvalidNumber"] : List Str))) || (decide (x = "RuntimeError") && decide (C ∈ (["NoStone", "TooManyStones", "OutOfBounds"] : List Str)))
structure TOk (τ : Tb) : Prop where
  cs : ∀ C ∈ std8, C ∈ τ.cs
  cat : ∀ C ∈ std8, τ.cat C = true
  g : ∀ C ∈ std8, ∀ x ∈ stdN, τ.xt C (.glo x) = some (stdR C x)
  t : ∀ C ∈ std8, ∀ x ∈ (["ValueError", "RuntimeError"] : List String), τ.xt C (.ty x) = some (stdT C x)
theorem isi_glo {xt : Str → M → Option Bool} {C x : Str} {ks : List Str} {vs : List PV} : isiV xt [.exc C ks vs, .glo x] = (xt C (.glo x)).map .bl := rfl
theorem isi_ty {xt : Str → M → Option Bool} {C : Str} {x : String} {ks : List Str} {vs : List PV} : isiV xt [.exc C ks vs, .ty x] = (xt C (.ty x)).map .bl := rfl
theorem deed_ok {lam : M} {v : PV} {r : VS} : vDeed lam (.ok v) (some (.opq lam) :: r) = .ok v (some (.opq lam) :: r) := by unfold vDeed; exact if_pos rfl
theorem deed_xc {lam : M} {v : PV} {r : VS} : vDeed lam (.xc v) (some (.opq lam) :: r) = .xc v (some (.opq lam) :: r) := by unfold vDeed; exact if_pos rfl
theorem told_ok (τ : Tb) (lam : M) (v : PV) : V__law_told τ lam (.ok v) = .ok (.lst [v]) [] := by
  unfold V__law_told v__law_told
  walk_at "ve"
  unfold v__law_told_1 v__law_told_1a_0
  walk_at "ve"
  rw [deed_ok]
  walk_at "ve"
  walk_at "ve"
  unfold v__law_told_2 v__law_told_2a_0
  walk_at "ve"
  rw [vIs_non]
  walk_at "ve"
  walk_at "fin"
theorem tryK_xc {cs : List Str} {ca : Str → Bool} {i : Nat} {w : VSt} {C : Str} {ks : List Str} {us : List PV} {s : VS} (h : C ∈ cs) (h2 : ca C = true) : tryK cs ca i w (.xc (.exc C ks us) s) = (w (s.set i (some (.exc C ks us)))).suf i := by
  show (if C ∈ cs then _ else _) = _
  rw [if_pos h, if_pos h2]
theorem e_vAdd_lst {xs ys : List PV} (h : xs.length + ys.length ≤ 16777216) : vAdd (.lst xs) (.lst ys) = some (.lst (xs ++ ys)) := if_pos h
theorem xf_at {cs : List Str} {n C : Str} {v : PV} (h : C ∈ cs) : xfV cs n (.exc C [n] [v]) = some v := by
  show (if C ∈ cs then fldV [n] [v] n else none) = some v
  rw [if_pos h]; exact if_pos rfl
theorem e_ne_false {x y : PV} (h : eqD true x y = some (.bl false)) (g : vNe x y = eqD true x y) : vNe x y = some (.bl false) := g.trans h
theorem told_InvalidPlace {τ : Tb} (H : TOk τ) (lam : M) (v : PV) : V__law_told τ lam (.xc (.exc "InvalidPlace" ["value"] [v])) = .ok (.tup [.str "place", v]) [] := by
  have hm : ("InvalidPlace" : Str) ∈ std8 := by decide +kernel
  have hc := H.cs _ hm
  have hg : ∀ x ∈ stdN, τ.xt "InvalidPlace" (.glo x) = some (stdR "InvalidPlace" x) := H.g _ hm
  have ht := H.t _ hm
  unfold V__law_told v__law_told
  walk_at "ve"
  unfold v__law_told_1 v__law_told_1a_0 v__law_told_1b_0
  walk_at "ve"
  rw [deed_xc]
  walk_at "ve"
  rw [tryK_xc hc (H.cat _ hm)]
  walk_at "ve"
  walk_at "ve"
  unfold v__law_told_2 v__law_told_2a_0
  walk_at "ve"
  rw [vIs_exc]
  walk_at "ve"
  unfold v__law_told_3
  walk_at "ve"
  rw [isi_glo, hg _ (by decide +kernel), show stdR "InvalidPlace" "InvalidPlace" = true by decide +kernel, Option.map_some]
  walk_at "ve"
  rw [isi_glo, hg _ (by decide +kernel), show stdR "InvalidPlace" "InvalidDistance" = false by decide +kernel, Option.map_some]
  walk_at "ve"
  unfold v__law_told_4
  walk_at "ve"
  rw [isi_glo, hg _ (by decide +kernel), show stdR "InvalidPlace" "InvalidBag" = false by decide +kernel, Option.map_some]
  walk_at "ve"
  rw [isi_glo, hg _ (by decide +kernel), show stdR "InvalidPlace" "InvalidRow" = false by decide +kernel, Option.map_some]
  walk_at "ve"
  rw [e_vAdd_lst (by simp only [List.length_cons, List.length_nil]; decide)]
  walk_at "ve"
  unfold v__law_told_5
  walk_at "ve"
  rw [isi_glo, hg _ (by decide +kernel), show stdR "InvalidPlace" "InvalidNumber" = false by decide +kernel, Option.map_some]
  walk_at "ve"
  rw [isi_glo, hg _ (by decide +kernel), show stdR "InvalidPlace" "NoStone" = false by decide +kernel, Option.map_some]
  walk_at "ve"
  rw [e_vAdd_lst (by simp only [List.length_cons, List.length_nil]; decide)]
  walk_at "ve"
  unfold v__law_told_6
  walk_at "ve"
  rw [isi_glo, hg _ (by decide +kernel), show stdR "InvalidPlace" "TooManyStones" = false by decide +kernel, Option.map_some]
  walk_at "ve"
  rw [isi_glo, hg _ (by decide +kernel), show stdR "InvalidPlace" "OutOfBounds" = false by decide +kernel, Option.map_some]
  walk_at "ve"
  rw [e_vAdd_lst (by simp only [List.length_cons, List.length_nil]; decide)]
  walk_at "ve"
  unfold v__law_told_7
  walk_at "ve"
  rw [isi_glo, hg _ (by decide +kernel), show stdR "InvalidPlace" "StoneError" = true by decide +kernel, Option.map_some]
  walk_at "ve"
  rw [isi_ty, ht _ (by decide +kernel), show stdT "InvalidPlace" "ValueError" = true by decide +kernel, Option.map_some]
  walk_at "ve"
  unfold v__law_told_8
  walk_at "ve"
  rw [isi_glo, hg _ (by decide +kernel), show stdR "InvalidPlace" "WalkError" = false by decide +kernel, Option.map_some]
  walk_at "ve"
  rw [isi_ty, ht _ (by decide +kernel), show stdT "InvalidPlace" "RuntimeError" = false by decide +kernel, Option.map_some]
  walk_at "ve"
  rw [e_vAdd_lst (by simp only [List.length_cons, List.length_nil]; decide)]
  walk_at "ve"
  unfold v__law_told_9
  walk_at "ve"
  rw [show countV (.lst [.bl true, .bl false, .bl false, .bl false, .bl false, .bl false, .bl false, .bl false]) [.bl true] = some (.int 1) from rfl]
  walk_at "ve"
  rw [vEq_int, show ((1 : Int) == 1) = true from rfl]
  walk_at "ve"
  rw [show indexV (.lst [.bl true, .bl false, .bl false, .bl false, .bl false, .bl false, .bl false, .bl false]) [.bl true] = some (.int 0) from rfl]
  walk_at "ve"
  unfold v__law_told_10
  walk_at "ve"
  rw [vEq_int, show ((0 : Int) == 9) = false from rfl]
  walk_at "ve"
  rw [show decide ((0 : Int) < 5) = true from rfl, show decide ((4 : Int) < 0) = false from rfl]
  walk_at "ve"
  rw [show vNe (.lst [.bl true, .bl true, .bl false, .bl false]) (.lst [.bl true, .bl true, .bl false, .bl false]) = some (.bl false) from rfl]
  walk_at "ve"
  unfold v__law_told_11 v__law_told_11a_0
  walk_at "ve"
  rw [vEq_int, show ((0 : Int) == 2) = false from rfl]
  walk_at "ve"
  rw [vEq_int, show ((0 : Int) == 3) = false from rfl]
  walk_at "ve"
  unfold v__law_told_12 v__law_told_12a_0
  walk_at "ve"
  rw [vEq_int, show ((0 : Int) == 6) = false from rfl]
  walk_at "ve"
  unfold v__law_told_13
  walk_at "ve"
  unfold v__law_told_14
  walk_at "ve"
  rw [show atI [PV.str "place", .str "distance", .str "", .str "", .str "number", .str "stone", .str "", .str "bounds"] 0 = some (.str "place") from rfl]
  walk_at "ve"
  rw [show xfV τ.cs "value" (.exc "InvalidPlace" ["value"] [v]) = some v from xf_at hc]
  walk_at "ve"
  walk_at "fin"

theorem told_InvalidDistance {τ : Tb} (H : TOk τ) (lam : M) (v : PV) : V__law_told τ lam (.xc (.exc "InvalidDistance" ["value"] [v])) = .ok (.tup [.str "distance", v]) [] := by
  have hm : ("InvalidDistance" : Str) ∈ std8 := by decide +kernel
  have hc := H.cs _ hm
  have hg : ∀ x ∈ stdN, τ.xt "InvalidDistance" (.glo x) = some (stdR "InvalidDistance" x) := H.g _ hm
  have ht := H.t _ hm
  unfold V__law_told v__law_told
  walk_at "ve"
  unfold v__law_told_1 v__law_told_1a_0 v__law_told_1b_0
  walk_at "ve"
  rw [deed_xc]
  walk_at "ve"
  rw [tryK_xc hc (H.cat _ hm)]
  walk_at "ve"
  walk_at "ve"
  unfold v__law_told_2 v__law_told_2a_0
  walk_at "ve"
  rw [vIs_exc]
  walk_at "ve"
  unfold v__law_told_3
  walk_at "ve"
  rw [isi_glo, hg _ (by decide +kernel), show stdR "InvalidDistance" "InvalidPlace" = false by decide +kernel, Option.map_some]
  walk_at "ve"
  rw [isi_glo, hg _ (by decide +kernel), show stdR "InvalidDistance" "InvalidDistance" = true by decide +kernel, Option.map_some]
  walk_at "ve"
  unfold v__law_told_4
  walk_at "ve"
  rw [isi_glo, hg _ (by decide +kernel), show stdR "InvalidDistance" "InvalidBag" = false by decide +kernel, Option.map_some]
  walk_at "ve"
  rw [isi_glo, hg _ (by decide +kernel), show stdR "InvalidDistance" "InvalidRow" = false by decide +kernel, Option.map_some]
  walk_at "ve"
  rw [e_vAdd_lst (by simp only [List.length_cons, List.length_nil]; decide)]
  walk_at "ve"
  unfold v__law_told_5
  walk_at "ve"
  rw [isi_glo, hg _ (by decide +kernel), show stdR "InvalidDistance" "InvalidNumber" = false by decide +kernel, Option.map_some]
  walk_at "ve"
  rw [isi_glo, hg _ (by decide +kernel), show stdR "InvalidDistance" "NoStone" = false by decide +kernel, Option.map_some]
  walk_at "ve"
  rw [e_vAdd_lst (by simp only [List.length_cons, List.length_nil]; decide)]
  walk_at "ve"
  unfold v__law_told_6
  walk_at "ve"
  rw [isi_glo, hg _ (by decide +kernel), show stdR "InvalidDistance" "TooManyStones" = false by decide +kernel, Option.map_some]
  walk_at "ve"
  rw [isi_glo, hg _ (by decide +kernel), show stdR "InvalidDistance" "OutOfBounds" = false by decide +kernel, Option.map_some]
  walk_at "ve"
  rw [e_vAdd_lst (by simp only [List.length_cons, List.length_nil]; decide)]
  walk_at "ve"
  unfold v__law_told_7
  walk_at "ve"
  rw [isi_glo, hg _ (by decide +kernel), show stdR "InvalidDistance" "StoneError" = true by decide +kernel, Option.map_some]
  walk_at "ve"
  rw [isi_ty, ht _ (by decide +kernel), show stdT "InvalidDistance" "ValueError" = true by decide +kernel, Option.map_some]
  walk_at "ve"
  unfold v__law_told_8
  walk_at "ve"
  rw [isi_glo, hg _ (by decide +kernel), show stdR "InvalidDistance" "WalkError" = false by decide +kernel, Option.map_some]
  walk_at "ve"
  rw [isi_ty, ht _ (by decide +kernel), show stdT "InvalidDistance" "RuntimeError" = false by decide +kernel, Option.map_some]
  walk_at "ve"
  rw [e_vAdd_lst (by simp only [List.length_cons, List.length_nil]; decide)]
  walk_at "ve"
  unfold v__law_told_9
  walk_at "ve"
  rw [show countV (.lst [.bl false, .bl true, .bl false, .bl false, .bl false, .bl false, .bl false, .bl false]) [.bl true] = some (.int 1) from rfl]
  walk_at "ve"
  rw [vEq_int, show ((1 : Int) == 1) = true from rfl]
  walk_at "ve"
  rw [show indexV (.lst [.bl false, .bl true, .bl false, .bl false, .bl false, .bl false, .bl false, .bl false]) [.bl true] = some (.int 1) from rfl]
  walk_at "ve"
  unfold v__law_told_10
  walk_at "ve"
  rw [vEq_int, show ((1 : Int) == 9) = false from rfl]
  walk_at "ve"
  rw [show decide ((1 : Int) < 5) = true from rfl, show decide ((4 : Int) < 1) = false from rfl]
  walk_at "ve"
  rw [show vNe (.lst [.bl true, .bl true, .bl false, .bl false]) (.lst [.bl true, .bl true, .bl false, .bl false]) = some (.bl false) from rfl]
  walk_at "ve"
  unfold v__law_told_11 v__law_told_11a_0
  walk_at "ve"
  rw [vEq_int, show ((1 : Int) == 2) = false from rfl]
  walk_at "ve"
  rw [vEq_int, show ((1 : Int) == 3) = false from rfl]
  walk_at "ve"
  unfold v__law_told_12 v__law_told_12a_0
  walk_at "ve"
  rw [vEq_int, show ((1 : Int) == 6) = false from rfl]
  walk_at "ve"
  unfold v__law_told_13
  walk_at "ve"
  unfold v__law_told_14
  walk_at "ve"
  rw [show atI [PV.str "place", .str "distance", .str "", .str "", .str "number", .str "stone", .str "", .str "bounds"] 1 = some (.str "distance") from rfl]
  walk_at "ve"
  rw [show xfV τ.cs "value" (.exc "InvalidDistance" ["value"] [v]) = some v from xf_at hc]
  walk_at "ve"
  walk_at "fin"

theorem told_InvalidBag {τ : Tb} (H : TOk τ) (lam : M) (v : PV) : V__law_told τ lam (.xc (.exc "InvalidBag" ["position"] [v])) = .ok (.tup [.str "bag", v]) [] := by
  have hm : ("InvalidBag" : Str) ∈ std8 := by decide +kernel
  have hc := H.cs _ hm
  have hg : ∀ x ∈ stdN, τ.xt "InvalidBag" (.glo x) = some (stdR "InvalidBag" x) := H.g _ hm
  have ht := H.t _ hm
  unfold V__law_told v__law_told
  walk_at "ve"
  unfold v__law_told_1 v__law_told_1a_0 v__law_told_1b_0
  walk_at "ve"
  rw [deed_xc]
  walk_at "ve"
  rw [tryK_xc hc (H.cat _ hm)]
  walk_at "ve"
  walk_at "ve"
  unfold v__law_told_2 v__law_told_2a_0
  walk_at "ve"
  rw [vIs_exc]
  walk_at "ve"
  unfold v__law_told_3
  walk_at "ve"
  rw [isi_glo, hg _ (by decide +kernel), show stdR "InvalidBag" "InvalidPlace" = false by decide +kernel, Option.map_some]
  walk_at "ve"
  rw [isi_glo, hg _ (by decide +kernel), show stdR "InvalidBag" "InvalidDistance" = false by decide +kernel, Option.map_some]
  walk_at "ve"
  unfold v__law_told_4
  walk_at "ve"
  rw [isi_glo, hg _ (by decide +kernel), show stdR "InvalidBag" "InvalidBag" = true by decide +kernel, Option.map_some]
  walk_at "ve"
  rw [isi_glo, hg _ (by decide +kernel), show stdR "InvalidBag" "InvalidRow" = false by decide +kernel, Option.map_some]
  walk_at "ve"
  rw [e_vAdd_lst (by simp only [List.length_cons, List.length_nil]; decide)]
  walk_at "ve"
  unfold v__law_told_5
  walk_at "ve"
  rw [isi_glo, hg _ (by decide +kernel), show stdR "InvalidBag" "InvalidNumber" = false by decide +kernel, Option.map_some]
  walk_at "ve"
  rw [isi_glo, hg _ (by decide +kernel), show stdR "InvalidBag" "NoStone" = false by decide +kernel, Option.map_some]
  walk_at "ve"
  rw [e_vAdd_lst (by simp only [List.length_cons, List.length_nil]; decide)]
  walk_at "ve"
  unfold v__law_told_6
  walk_at "ve"
  rw [isi_glo, hg _ (by decide +kernel), show stdR "InvalidBag" "TooManyStones" = false by decide +kernel, Option.map_some]
  walk_at "ve"
  rw [isi_glo, hg _ (by decide +kernel), show stdR "InvalidBag" "OutOfBounds" = false by decide +kernel, Option.map_some]
  walk_at "ve"
  rw [e_vAdd_lst (by simp only [List.length_cons, List.length_nil]; decide)]
  walk_at "ve"
  unfold v__law_told_7
  walk_at "ve"
  rw [isi_glo, hg _ (by decide +kernel), show stdR "InvalidBag" "StoneError" = true by decide +kernel, Option.map_some]
  walk_at "ve"
  rw [isi_ty, ht _ (by decide +kernel), show stdT "InvalidBag" "ValueError" = true by decide +kernel, Option.map_some]
  walk_at "ve"
  unfold v__law_told_8
  walk_at "ve"
  rw [isi_glo, hg _ (by decide +kernel), show stdR "InvalidBag" "WalkError" = false by decide +kernel, Option.map_some]
  walk_at "ve"
  rw [isi_ty, ht _ (by decide +kernel), show stdT "InvalidBag" "RuntimeError" = false by decide +kernel, Option.map_some]
  walk_at "ve"
  rw [e_vAdd_lst (by simp only [List.length_cons, List.length_nil]; decide)]
  walk_at "ve"
  unfold v__law_told_9
  walk_at "ve"
  rw [show countV (.lst [.bl false, .bl false, .bl true, .bl false, .bl false, .bl false, .bl false, .bl false]) [.bl true] = some (.int 1) from rfl]
  walk_at "ve"
  rw [vEq_int, show ((1 : Int) == 1) = true from rfl]
  walk_at "ve"
  rw [show indexV (.lst [.bl false, .bl false, .bl true, .bl false, .bl false, .bl false, .bl false, .bl false]) [.bl true] = some (.int 2) from rfl]
  walk_at "ve"
  unfold v__law_told_10
  walk_at "ve"
  rw [vEq_int, show ((2 : Int) == 9) = false from rfl]
  walk_at "ve"
  rw [show decide ((2 : Int) < 5) = true from rfl, show decide ((4 : Int) < 2) = false from rfl]
  walk_at "ve"
  rw [show vNe (.lst [.bl true, .bl true, .bl false, .bl false]) (.lst [.bl true, .bl true, .bl false, .bl false]) = some (.bl false) from rfl]
  walk_at "ve"
  unfold v__law_told_11 v__law_told_11a_0
  walk_at "ve"
  rw [vEq_int, show ((2 : Int) == 2) = true from rfl]
  walk_at "ve"
  rw [show atI [PV.str "bag", PV.str "row"] (2 - 2) = some (.str "bag") from rfl]
  walk_at "ve"
  rw [show xfV τ.cs "position" (.exc "InvalidBag" ["position"] [v]) = some v from xf_at hc]
  walk_at "ve"
  walk_at "fin"

theorem told_InvalidRow {τ : Tb} (H : TOk τ) (lam : M) (v : PV) : V__law_told τ lam (.xc (.exc "InvalidRow" ["position"] [v])) = .ok (.tup [.str "row", v]) [] := by
  have hm : ("InvalidRow" : Str) ∈ std8 := by decide +kernel
  have hc := H.cs _ hm
  have hg : ∀ x ∈ stdN, τ.xt "InvalidRow" (.glo x) = some (stdR "InvalidRow" x) := H.g _ hm
  have ht := H.t _ hm
  unfold V__law_told v__law_told
  walk_at "ve"
  unfold v__law_told_1 v__law_told_1a_0 v__law_told_1b_0
  walk_at "ve"
  rw [deed_xc]
  walk_at "ve"
  rw [tryK_xc hc (H.cat _ hm)]
  walk_at "ve"
  walk_at "ve"
  unfold v__law_told_2 v__law_told_2a_0
  walk_at "ve"
  rw [vIs_exc]
  walk_at "ve"
  unfold v__law_told_3
  walk_at "ve"
  rw [isi_glo, hg _ (by decide +kernel), show stdR "InvalidRow" "InvalidPlace" = false by decide +kernel, Option.map_some]
  walk_at "ve"
  rw [isi_glo, hg _ (by decide +kernel), show stdR "InvalidRow" "InvalidDistance" = false by decide +kernel, Option.map_some]
  walk_at "ve"
  unfold v__law_told_4
  walk_at "ve"
  rw [isi_glo, hg _ (by decide +kernel), show stdR "InvalidRow" "InvalidBag" = false by decide +kernel, Option.map_some]
  walk_at "ve"
  rw [isi_glo, hg _ (by decide +kernel), show stdR "InvalidRow" "InvalidRow" = true by decide +kernel, Option.map_some]
  walk_at "ve"
  rw [e_vAdd_lst (by simp only [List.length_cons, List.length_nil]; decide)]
  walk_at "ve"
  unfold v__law_told_5
  walk_at "ve"
  rw [isi_glo, hg _ (by decide +kernel), show stdR "InvalidRow" "InvalidNumber" = false by decide +kernel, Option.map_some]
  walk_at "ve"
  rw [isi_glo, hg _ (by decide +kernel), show stdR "InvalidRow" "NoStone" = false by decide +kernel, Option.map_some]
  walk_at "ve"
  rw [e_vAdd_lst (by simp only [List.length_cons, List.length_nil]; decide)]
  walk_at "ve"
  unfold v__law_told_6
  walk_at "ve"
  rw [isi_glo, hg _ (by decide +kernel), show stdR "InvalidRow" "TooManyStones" = false by decide +kernel, Option.map_some]
  walk_at "ve"
  rw [isi_glo, hg _ (by decide +kernel), show stdR "InvalidRow" "OutOfBounds" = false by decide +kernel, Option.map_some]
  walk_at "ve"
  rw [e_vAdd_lst (by simp only [List.length_cons, List.length_nil]; decide)]
  walk_at "ve"
  unfold v__law_told_7
  walk_at "ve"
  rw [isi_glo, hg _ (by decide +kernel), show stdR "InvalidRow" "StoneError" = true by decide +kernel, Option.map_some]
  walk_at "ve"
  rw [isi_ty, ht _ (by decide +kernel), show stdT "InvalidRow" "ValueError" = true by decide +kernel, Option.map_some]
  walk_at "ve"
  unfold v__law_told_8
  walk_at "ve"
  rw [isi_glo, hg _ (by decide +kernel), show stdR "InvalidRow" "WalkError" = false by decide +kernel, Option.map_some]
  walk_at "ve"
  rw [isi_ty, ht _ (by decide +kernel), show stdT "InvalidRow" "RuntimeError" = false by decide +kernel, Option.map_some]
  walk_at "ve"
  rw [e_vAdd_lst (by simp only [List.length_cons, List.length_nil]; decide)]
  walk_at "ve"
  unfold v__law_told_9
  walk_at "ve"
  rw [show countV (.lst [.bl false, .bl false, .bl false, .bl true, .bl false, .bl false, .bl false, .bl false]) [.bl true] = some (.int 1) from rfl]
  walk_at "ve"
  rw [vEq_int, show ((1 : Int) == 1) = true from rfl]
  walk_at "ve"
  rw [show indexV (.lst [.bl false, .bl false, .bl false, .bl true, .bl false, .bl false, .bl false, .bl false]) [.bl true] = some (.int 3) from rfl]
  walk_at "ve"
  unfold v__law_told_10
  walk_at "ve"
  rw [vEq_int, show ((3 : Int) == 9) = false from rfl]
  walk_at "ve"
  rw [show decide ((3 : Int) < 5) = true from rfl, show decide ((4 : Int) < 3) = false from rfl]
  walk_at "ve"
  rw [show vNe (.lst [.bl true, .bl true, .bl false, .bl false]) (.lst [.bl true, .bl true, .bl false, .bl false]) = some (.bl false) from rfl]
  walk_at "ve"
  unfold v__law_told_11 v__law_told_11a_0
  walk_at "ve"
  rw [vEq_int, show ((3 : Int) == 2) = false from rfl]
  walk_at "ve"
  rw [vEq_int, show ((3 : Int) == 3) = true from rfl]
  walk_at "ve"
  rw [show atI [PV.str "bag", PV.str "row"] (3 - 2) = some (.str "row") from rfl]
  walk_at "ve"
  rw [show xfV τ.cs "position" (.exc "InvalidRow" ["position"] [v]) = some v from xf_at hc]
  walk_at "ve"
  walk_at "fin"

theorem told_InvalidNumber {τ : Tb} (H : TOk τ) (lam : M) (v : PV) : V__law_told τ lam (.xc (.exc "InvalidNumber" ["value"] [v])) = .ok (.tup [.str "number", v]) [] := by
  have hm : ("InvalidNumber" : Str) ∈ std8 := by decide +kernel
  have hc := H.cs _ hm
  have hg : ∀ x ∈ stdN, τ.xt "InvalidNumber" (.glo x) = some (stdR "InvalidNumber" x) := H.g _ hm
  have ht := H.t _ hm
  unfold V__law_told v__law_told
  walk_at "ve"
  unfold v__law_told_1 v__law_told_1a_0 v__law_told_1b_0
  walk_at "ve"
  rw [deed_xc]
  walk_at "ve"
  rw [tryK_xc hc (H.cat _ hm)]
  walk_at "ve"
  walk_at "ve"
  unfold v__law_told_2 v__law_told_2a_0
  walk_at "ve"
  rw [vIs_exc]
  walk_at "ve"
  unfold v__law_told_3
  walk_at "ve"
  rw [isi_glo, hg _ (by decide +kernel), show stdR "InvalidNumber" "InvalidPlace" = false by decide +kernel, Option.map_some]
  walk_at "ve"
  rw [isi_glo, hg _ (by decide +kernel), show stdR "InvalidNumber" "InvalidDistance" = false by decide +kernel, Option.map_some]
  walk_at "ve"
  unfold v__law_told_4
  walk_at "ve"
  rw [isi_glo, hg _ (by decide +kernel), show stdR "InvalidNumber" "InvalidBag" = false by decide +kernel, Option.map_some]
  walk_at "ve"
  rw [isi_glo, hg _ (by decide +kernel), show stdR "InvalidNumber" "InvalidRow" = false by decide +kernel, Option.map_some]
  walk_at "ve"
  rw [e_vAdd_lst (by simp only [List.length_cons, List.length_nil]; decide)]
  walk_at "ve"
  unfold v__law_told_5
  walk_at "ve"
  rw [isi_glo, hg _ (by decide +kernel), show stdR "InvalidNumber" "InvalidNumber" = true by decide +kernel, Option.map_some]
  walk_at "ve"
  rw [isi_glo, hg _ (by decide +kernel), show stdR "InvalidNumber" "NoStone" = false by decide +kernel, Option.map_some]
  walk_at "ve"
  rw [e_vAdd_lst (by simp only [List.length_cons, List.length_nil]; decide)]
  walk_at "ve"
  unfold v__law_told_6
  walk_at "ve"
  rw [isi_glo, hg _ (by decide +kernel), show stdR "InvalidNumber" "TooManyStones" = false by decide +kernel, Option.map_some]
  walk_at "ve"
  rw [isi_glo, hg _ (by decide +kernel), show stdR "InvalidNumber" "OutOfBounds" = false by decide +kernel, Option.map_some]
  walk_at "ve"
  rw [e_vAdd_lst (by simp only [List.length_cons, List.length_nil]; decide)]
  walk_at "ve"
  unfold v__law_told_7
  walk_at "ve"
  rw [isi_glo, hg _ (by decide +kernel), show stdR "InvalidNumber" "StoneError" = true by decide +kernel, Option.map_some]
  walk_at "ve"
  rw [isi_ty, ht _ (by decide +kernel), show stdT "InvalidNumber" "ValueError" = true by decide +kernel, Option.map_some]
  walk_at "ve"
  unfold v__law_told_8
  walk_at "ve"
  rw [isi_glo, hg _ (by decide +kernel), show stdR "InvalidNumber" "WalkError" = false by decide +kernel, Option.map_some]
  walk_at "ve"
  rw [isi_ty, ht _ (by decide +kernel), show stdT "InvalidNumber" "RuntimeError" = false by decide +kernel, Option.map_some]
  walk_at "ve"
  rw [e_vAdd_lst (by simp only [List.length_cons, List.length_nil]; decide)]
  walk_at "ve"
  unfold v__law_told_9
  walk_at "ve"
  rw [show countV (.lst [.bl false, .bl false, .bl false, .bl false, .bl true, .bl false, .bl false, .bl false]) [.bl true] = some (.int 1) from rfl]
  walk_at "ve"
  rw [vEq_int, show ((1 : Int) == 1) = true from rfl]
  walk_at "ve"
  rw [show indexV (.lst [.bl false, .bl false, .bl false, .bl false, .bl true, .bl false, .bl false, .bl false]) [.bl true] = some (.int 4) from rfl]
  walk_at "ve"
  unfold v__law_told_10
  walk_at "ve"
  rw [vEq_int, show ((4 : Int) == 9) = false from rfl]
  walk_at "ve"
  rw [show decide ((4 : Int) < 5) = true from rfl, show decide ((4 : Int) < 4) = false from rfl]
  walk_at "ve"
  rw [show vNe (.lst [.bl true, .bl true, .bl false, .bl false]) (.lst [.bl true, .bl true, .bl false, .bl false]) = some (.bl false) from rfl]
  walk_at "ve"
  unfold v__law_told_11 v__law_told_11a_0
  walk_at "ve"
  rw [vEq_int, show ((4 : Int) == 2) = false from rfl]
  walk_at "ve"
  rw [vEq_int, show ((4 : Int) == 3) = false from rfl]
  walk_at "ve"
  unfold v__law_told_12 v__law_told_12a_0
  walk_at "ve"
  rw [vEq_int, show ((4 : Int) == 6) = false from rfl]
  walk_at "ve"
  unfold v__law_told_13
  walk_at "ve"
  unfold v__law_told_14
  walk_at "ve"
  rw [show atI [PV.str "place", .str "distance", .str "", .str "", .str "number", .str "stone", .str "", .str "bounds"] 4 = some (.str "number") from rfl]
  walk_at "ve"
  rw [show xfV τ.cs "value" (.exc "InvalidNumber" ["value"] [v]) = some v from xf_at hc]
  walk_at "ve"
  walk_at "fin"

theorem told_NoStone {τ : Tb} (H : TOk τ) (lam : M) (v : PV) : V__law_told τ lam (.xc (.exc "NoStone" ["value"] [v])) = .ok (.tup [.str "stone", v]) [] := by
  have hm : ("NoStone" : Str) ∈ std8 := by decide +kernel
  have hc := H.cs _ hm
  have hg : ∀ x ∈ stdN, τ.xt "NoStone" (.glo x) = some (stdR "NoStone" x) := H.g _ hm
  have ht := H.t _ hm
  unfold V__law_told v__law_told
  walk_at "ve"
  unfold v__law_told_1 v__law_told_1a_0 v__law_told_1b_0
  walk_at "ve"
  rw [deed_xc]
  walk_at "ve"
  rw [tryK_xc hc (H.cat _ hm)]
  walk_at "ve"
  walk_at "ve"
  unfold v__law_told_2 v__law_told_2a_0
  walk_at "ve"
  rw [vIs_exc]
  walk_at "ve"
  unfold v__law_told_3
  walk_at "ve"
  rw [isi_glo, hg _ (by decide +kernel), show stdR "NoStone" "InvalidPlace" = false by decide +kernel, Option.map_some]
  walk_at "ve"
  rw [isi_glo, hg _ (by decide +kernel), show stdR "NoStone" "InvalidDistance" = false by decide +kernel, Option.map_some]
  walk_at "ve"
  unfold v__law_told_4
  walk_at "ve"
  rw [isi_glo, hg _ (by decide +kernel), show stdR "NoStone" "InvalidBag" = false by decide +kernel, Option.map_some]
  walk_at "ve"
  rw [isi_glo, hg _ (by decide +kernel), show stdR "NoStone" "InvalidRow" = false by decide +kernel, Option.map_some]
  walk_at "ve"
  rw [e_vAdd_lst (by simp only [List.length_cons, List.length_nil]; decide)]
  walk_at "ve"
  unfold v__law_told_5
  walk_at "ve"
  rw [isi_glo, hg _ (by decide +kernel), show stdR "NoStone" "InvalidNumber" = false by decide +kernel, Option.map_some]
  walk_at "ve"
  rw [isi_glo, hg _ (by decide +kernel), show stdR "NoStone" "NoStone" = true by decide +kernel, Option.map_some]
  walk_at "ve"
  rw [e_vAdd_lst (by simp only [List.length_cons, List.length_nil]; decide)]
  walk_at "ve"
  unfold v__law_told_6
  walk_at "ve"
  rw [isi_glo, hg _ (by decide +kernel), show stdR "NoStone" "TooManyStones" = false by decide +kernel, Option.map_some]
  walk_at "ve"
  rw [isi_glo, hg _ (by decide +kernel), show stdR "NoStone" "OutOfBounds" = false by decide +kernel, Option.map_some]
  walk_at "ve"
  rw [e_vAdd_lst (by simp only [List.length_cons, List.length_nil]; decide)]
  walk_at "ve"
  unfold v__law_told_7
  walk_at "ve"
  rw [isi_glo, hg _ (by decide +kernel), show stdR "NoStone" "StoneError" = false by decide +kernel, Option.map_some]
  walk_at "ve"
  rw [isi_ty, ht _ (by decide +kernel), show stdT "NoStone" "ValueError" = false by decide +kernel, Option.map_some]
  walk_at "ve"
  unfold v__law_told_8
  walk_at "ve"
  rw [isi_glo, hg _ (by decide +kernel), show stdR "NoStone" "WalkError" = true by decide +kernel, Option.map_some]
  walk_at "ve"
  rw [isi_ty, ht _ (by decide +kernel), show stdT "NoStone" "RuntimeError" = true by decide +kernel, Option.map_some]
  walk_at "ve"
  rw [e_vAdd_lst (by simp only [List.length_cons, List.length_nil]; decide)]
  walk_at "ve"
  unfold v__law_told_9
  walk_at "ve"
  rw [show countV (.lst [.bl false, .bl false, .bl false, .bl false, .bl false, .bl true, .bl false, .bl false]) [.bl true] = some (.int 1) from rfl]
  walk_at "ve"
  rw [vEq_int, show ((1 : Int) == 1) = true from rfl]
  walk_at "ve"
  rw [show indexV (.lst [.bl false, .bl false, .bl false, .bl false, .bl false, .bl true, .bl false, .bl false]) [.bl true] = some (.int 5) from rfl]
  walk_at "ve"
  unfold v__law_told_10
  walk_at "ve"
  rw [vEq_int, show ((5 : Int) == 9) = false from rfl]
  walk_at "ve"
  rw [show decide ((5 : Int) < 5) = false from rfl, show decide ((4 : Int) < 5) = true from rfl]
  walk_at "ve"
  rw [show vNe (.lst [.bl false, .bl false, .bl true, .bl true]) (.lst [.bl false, .bl false, .bl true, .bl true]) = some (.bl false) from rfl]
  walk_at "ve"
  unfold v__law_told_11 v__law_told_11a_0
  walk_at "ve"
  rw [vEq_int, show ((5 : Int) == 2) = false from rfl]
  walk_at "ve"
  rw [vEq_int, show ((5 : Int) == 3) = false from rfl]
  walk_at "ve"
  unfold v__law_told_12 v__law_told_12a_0
  walk_at "ve"
  rw [vEq_int, show ((5 : Int) == 6) = false from rfl]
  walk_at "ve"
  unfold v__law_told_13
  walk_at "ve"
  unfold v__law_told_14
  walk_at "ve"
  rw [show atI [PV.str "place", .str "distance", .str "", .str "", .str "number", .str "stone", .str "", .str "bounds"] 5 = some (.str "stone") from rfl]
  walk_at "ve"
  rw [show xfV τ.cs "value" (.exc "NoStone" ["value"] [v]) = some v from xf_at hc]
  walk_at "ve"
  walk_at "fin"

theorem told_TooManyStones {τ : Tb} (H : TOk τ) (lam : M) (v : PV) : V__law_told τ lam (.xc (.exc "TooManyStones" ["limit"] [v])) = .ok (.tup [.str "many", v]) [] := by
  have hm : ("TooManyStones" : Str) ∈ std8 := by decide +kernel
  have hc := H.cs _ hm
  have hg : ∀ x ∈ stdN, τ.xt "TooManyStones" (.glo x) = some (stdR "TooManyStones" x) := H.g _ hm
  have ht := H.t _ hm
  unfold V__law_told v__law_told
  walk_at "ve"
  unfold v__law_told_1 v__law_told_1a_0 v__law_told_1b_0
  walk_at "ve"
  rw [deed_xc]
  walk_at "ve"
  rw [tryK_xc hc (H.cat _ hm)]
  walk_at "ve"
  walk_at "ve"
  unfold v__law_told_2 v__law_told_2a_0
  walk_at "ve"
  rw [vIs_exc]
  walk_at "ve"
  unfold v__law_told_3
  walk_at "ve"
  rw [isi_glo, hg _ (by decide +kernel), show stdR "TooManyStones" "InvalidPlace" = false by decide +kernel, Option.map_some]
  walk_at "ve"
  rw [isi_glo, hg _ (by decide +kernel), show stdR "TooManyStones" "InvalidDistance" = false by decide +kernel, Option.map_some]
  walk_at "ve"
  unfold v__law_told_4
  walk_at "ve"
  rw [isi_glo, hg _ (by decide +kernel), show stdR "TooManyStones" "InvalidBag" = false by decide +kernel, Option.map_some]
  walk_at "ve"
  rw [isi_glo, hg _ (by decide +kernel), show stdR "TooManyStones" "InvalidRow" = false by decide +kernel, Option.map_some]
  walk_at "ve"
  rw [e_vAdd_lst (by simp only [List.length_cons, List.length_nil]; decide)]
  walk_at "ve"
  unfold v__law_told_5
  walk_at "ve"
  rw [isi_glo, hg _ (by decide +kernel), show stdR "TooManyStones" "InvalidNumber" = false by decide +kernel, Option.map_some]
  walk_at "ve"
  rw [isi_glo, hg _ (by decide +kernel), show stdR "TooManyStones" "NoStone" = false by decide +kernel, Option.map_some]
  walk_at "ve"
  rw [e_vAdd_lst (by simp only [List.length_cons, List.length_nil]; decide)]
  walk_at "ve"
  unfold v__law_told_6
  walk_at "ve"
  rw [isi_glo, hg _ (by decide +kernel), show stdR "TooManyStones" "TooManyStones" = true by decide +kernel, Option.map_some]
  walk_at "ve"
  rw [isi_glo, hg _ (by decide +kernel), show stdR "TooManyStones" "OutOfBounds" = false by decide +kernel, Option.map_some]
  walk_at "ve"
  rw [e_vAdd_lst (by simp only [List.length_cons, List.length_nil]; decide)]
  walk_at "ve"
  unfold v__law_told_7
  walk_at "ve"
  rw [isi_glo, hg _ (by decide +kernel), show stdR "TooManyStones" "StoneError" = false by decide +kernel, Option.map_some]
  walk_at "ve"
  rw [isi_ty, ht _ (by decide +kernel), show stdT "TooManyStones" "ValueError" = false by decide +kernel, Option.map_some]
  walk_at "ve"
  unfold v__law_told_8
  walk_at "ve"
  rw [isi_glo, hg _ (by decide +kernel), show stdR "TooManyStones" "WalkError" = true by decide +kernel, Option.map_some]
  walk_at "ve"
  rw [isi_ty, ht _ (by decide +kernel), show stdT "TooManyStones" "RuntimeError" = true by decide +kernel, Option.map_some]
  walk_at "ve"
  rw [e_vAdd_lst (by simp only [List.length_cons, List.length_nil]; decide)]
  walk_at "ve"
  unfold v__law_told_9
  walk_at "ve"
  rw [show countV (.lst [.bl false, .bl false, .bl false, .bl false, .bl false, .bl false, .bl true, .bl false]) [.bl true] = some (.int 1) from rfl]
  walk_at "ve"
  rw [vEq_int, show ((1 : Int) == 1) = true from rfl]
  walk_at "ve"
  rw [show indexV (.lst [.bl false, .bl false, .bl false, .bl false, .bl false, .bl false, .bl true, .bl false]) [.bl true] = some (.int 6) from rfl]
  walk_at "ve"
  unfold v__law_told_10
  walk_at "ve"
  rw [vEq_int, show ((6 : Int) == 9) = false from rfl]
  walk_at "ve"
  rw [show decide ((6 : Int) < 5) = false from rfl, show decide ((4 : Int) < 6) = true from rfl]
  walk_at "ve"
  rw [show vNe (.lst [.bl false, .bl false, .bl true, .bl true]) (.lst [.bl false, .bl false, .bl true, .bl true]) = some (.bl false) from rfl]
  walk_at "ve"
  unfold v__law_told_11 v__law_told_11a_0
  walk_at "ve"
  rw [vEq_int, show ((6 : Int) == 2) = false from rfl]
  walk_at "ve"
  rw [vEq_int, show ((6 : Int) == 3) = false from rfl]
  walk_at "ve"
  unfold v__law_told_12 v__law_told_12a_0
  walk_at "ve"
  rw [vEq_int, show ((6 : Int) == 6) = true from rfl]
  walk_at "ve"
  rw [show xfV τ.cs "limit" (.exc "TooManyStones" ["limit"] [v]) = some v from xf_at hc]
  walk_at "ve"
  walk_at "fin"

theorem told_OutOfBounds {τ : Tb} (H : TOk τ) (lam : M) (v : PV) : V__law_told τ lam (.xc (.exc "OutOfBounds" ["value"] [v])) = .ok (.tup [.str "bounds", v]) [] := by
  have hm : ("OutOfBounds" : Str) ∈ std8 := by decide +kernel
  have hc := H.cs _ hm
  have hg : ∀ x ∈ stdN, τ.xt "OutOfBounds" (.glo x) = some (stdR "OutOfBounds" x) := H.g _ hm
  have ht := H.t _ hm
  unfold V__law_told v__law_told
  walk_at "ve"
  unfold v__law_told_1 v__law_told_1a_0 v__law_told_1b_0
  walk_at "ve"
  rw [deed_xc]
  walk_at "ve"
  rw [tryK_xc hc (H.cat _ hm)]
  walk_at "ve"
  walk_at "ve"
  unfold v__law_told_2 v__law_told_2a_0
  walk_at "ve"
  rw [vIs_exc]
  walk_at "ve"
  unfold v__law_told_3
  walk_at "ve"
  rw [isi_glo, hg _ (by decide +kernel), show stdR "OutOfBounds" "InvalidPlace" = false by decide +kernel, Option.map_some]
  walk_at "ve"
  rw [isi_glo, hg _ (by decide +kernel), show stdR "OutOfBounds" "InvalidDistance" = false by decide +kernel, Option.map_some]
  walk_at "ve"
  unfold v__law_told_4
  walk_at "ve"
  rw [isi_glo, hg _ (by decide +kernel), show stdR "OutOfBounds" "InvalidBag" = false by decide +kernel, Option.map_some]
  walk_at "ve"
  rw [isi_glo, hg _ (by decide +kernel), show stdR "OutOfBounds" "InvalidRow" = false by decide +kernel, Option.map_some]
  walk_at "ve"
  rw [e_vAdd_lst (by simp only [List.length_cons, List.length_nil]; decide)]
  walk_at "ve"
  unfold v__law_told_5
  walk_at "ve"
  rw [isi_glo, hg _ (by decide +kernel), show stdR "OutOfBounds" "InvalidNumber" = false by decide +kernel, Option.map_some]
  walk_at "ve"
  rw [isi_glo, hg _ (by decide +kernel), show stdR "OutOfBounds" "NoStone" = false by decide +kernel, Option.map_some]
  walk_at "ve"
  rw [e_vAdd_lst (by simp only [List.length_cons, List.length_nil]; decide)]
  walk_at "ve"
  unfold v__law_told_6
  walk_at "ve"
  rw [isi_glo, hg _ (by decide +kernel), show stdR "OutOfBounds" "TooManyStones" = false by decide +kernel, Option.map_some]
  walk_at "ve"
  rw [isi_glo, hg _ (by decide +kernel), show stdR "OutOfBounds" "OutOfBounds" = true by decide +kernel, Option.map_some]
  walk_at "ve"
  rw [e_vAdd_lst (by simp only [List.length_cons, List.length_nil]; decide)]
  walk_at "ve"
  unfold v__law_told_7
  walk_at "ve"
  rw [isi_glo, hg _ (by decide +kernel), show stdR "OutOfBounds" "StoneError" = false by decide +kernel, Option.map_some]
  walk_at "ve"
  rw [isi_ty, ht _ (by decide +kernel), show stdT "OutOfBounds" "ValueError" = false by decide +kernel, Option.map_some]
  walk_at "ve"
  unfold v__law_told_8
  walk_at "ve"
  rw [isi_glo, hg _ (by decide +kernel), show stdR "OutOfBounds" "WalkError" = true by decide +kernel, Option.map_some]
  walk_at "ve"
  rw [isi_ty, ht _ (by decide +kernel), show stdT "OutOfBounds" "RuntimeError" = true by decide +kernel, Option.map_some]
  walk_at "ve"
  rw [e_vAdd_lst (by simp only [List.length_cons, List.length_nil]; decide)]
  walk_at "ve"
  unfold v__law_told_9
  walk_at "ve"
  rw [show countV (.lst [.bl false, .bl false, .bl false, .bl false, .bl false, .bl false, .bl false, .bl true]) [.bl true] = some (.int 1) from rfl]
  walk_at "ve"
  rw [vEq_int, show ((1 : Int) == 1) = true from rfl]
  walk_at "ve"
  rw [show indexV (.lst [.bl false, .bl false, .bl false, .bl false, .bl false, .bl false, .bl false, .bl true]) [.bl true] = some (.int 7) from rfl]
  walk_at "ve"
  unfold v__law_told_10
  walk_at "ve"
  rw [vEq_int, show ((7 : Int) == 9) = false from rfl]
  walk_at "ve"
  rw [show decide ((7 : Int) < 5) = false from rfl, show decide ((4 : Int) < 7) = true from rfl]
  walk_at "ve"
  rw [show vNe (.lst [.bl false, .bl false, .bl true, .bl true]) (.lst [.bl false, .bl false, .bl true, .bl true]) = some (.bl false) from rfl]
  walk_at "ve"
  unfold v__law_told_11 v__law_told_11a_0
  walk_at "ve"
  rw [vEq_int, show ((7 : Int) == 2) = false from rfl]
  walk_at "ve"
  rw [vEq_int, show ((7 : Int) == 3) = false from rfl]
  walk_at "ve"
  unfold v__law_told_12 v__law_told_12a_0
  walk_at "ve"
  rw [vEq_int, show ((7 : Int) == 6) = false from rfl]
  walk_at "ve"
  unfold v__law_told_13
  walk_at "ve"
  unfold v__law_told_14
  walk_at "ve"
  rw [show atI [PV.str "place", .str "distance", .str "", .str "", .str "number", .str "stone", .str "", .str "bounds"] 7 = some (.str "bounds") from rfl]
  walk_at "ve"
  rw [show xfV τ.cs "value" (.exc "OutOfBounds" ["value"] [v]) = some v from xf_at hc]
  walk_at "ve"
  walk_at "fin"
end Dn
end
section
set_option maxHeartbeats 2000000
namespace Dn
open PySem PySem.Spec PyProof.Rows Mn Vn
open L2 (atI ixN)
local macro_rules | `(tactic| walk_at "ve") => `(tactic| first | done | try simp only [e_vSeq, e_vIf, e_vAsg, e_vgN, e_vAsgO, e_isObj_lst, e_isObj_dct, e_vRet, e_vDrop, e_vNext, e_vBrk, e_vCnt, e_vTst, e_vOp, e_vOpL, e_vCon, e_vUn, e_vAndT, e_vOrT, e_vNotT, e_vAndV_t, e_vOrV_t, e_vNotE_t, e_andK_bl, e_orK_bl, e_notK_bl, e_vIfE, e_vChain_t, e_chK_bl, e_vNil, e_vCons, e_vConsL, e_vConsO, e_vFn, e_vLst, e_vTup, e_vDct0, e_vCall, e_vBind, e_pick_nil, e_vFor, e_vIt, e_vSeqI, e_vSl, e_vSlL, e_voNo, e_voSome, e_intO, e_vSub, e_vLt, e_vLe, e_vGt, e_vGe, e_vAnd, e_vAddI, e_vNeg, e_vMin2, e_vMax2, e_itemsV_tup, e_itemsV_lst, e_itemsV_rol, e_lenV_tup, e_lenV_lst, e_lenV_rol, e_vPar_t, e_parK_2, e_vPar3_t, e_par3K_3, e_vRaise_t, e_raiK_1, e_vgT_t, e_vgL_t, e_vgsCons_t, e_vgsNil_t, e_setL, e_vAppend_t, e_appK_1, e_app2K_1, e_vPop_t, e_popK_1, e_pop2K_1, e_vReverse_t, e_revK_1, e_vSetSub_t, e_ssK_1, e_ss2K_1, e_ss3K_1, e_vAug_t, e_augK_1, e_vAugS_t, e_asK_1, e_as2K_1, e_as3K_1, e_as4K_1, e_as5K_1, e_vTry_t, e_tryK_nx, e_tryK_rt, e_suf_nx, e_suf_rt, e_vXf, e_vYes, e_vComp, e_vBm, e_refItems_lst, e_vVar_t, e_varK, e_ownL, e_ownK, e_pick0, e_pick1, e_pick2, e_pick3, e_pick4, e_startV, e_vAsgT, finV_rt0, finV_nx0, finV_xc0, st_ok, st_xc, seq_nx, seq_rt, seq_br, seq_ct, seq_xc, oS_some, tst_bl, opt_some, bind_ok, bind_xc, f1_eq, f2I_eq, toE_ok, toE_xc, setM_nil, setM_cons, vI_int, vAdd_int, ix_lst, ix_tup, ix_rol, List.getElem?_cons_zero, List.getElem?_cons_succ, List.set_cons_zero, List.set_cons_succ, List.length_cons, List.length_nil, List.cons_append, List.nil_append, List.append_nil, Option.bind_some, decide_eq_true_eq, Bool.not_eq_true', decide_eq_false_iff_not, if_true, List.map_cons, List.map_nil, Nat.sub_self, List.replicate_succ, List.replicate_zero, Nat.reduceAdd, Nat.reduceLeDiff, lt_sz0, lt_sz1, lt_sz2, lt_sz3, lt_sz4, lt_sz5, if_false, Bool.false_eq_true, Bool.true_eq_false, and_self, Bool.not_true, Bool.not_false])
local macro_rules | `(tactic| walk_at "fin") => `(tactic| first | done | try simp only [finV, ioAll, ioOut, List.all_cons, List.all_nil, List.map_cons, List.map_nil, List.getElem?_cons_zero, List.getElem?_cons_succ, Option.join_some, Option.isSome_some, Option.getD_some, Bool.and_self, if_true])
theorem pdVL_iv (n : Nat) : ∀ a : List Int, pdVL (pdV n) (iv a) = some (a.map PyData.int)
  | [] => rfl
  | x :: a => by
    show (match pdV n (.int x), pdVL (pdV n) (iv a) with | some d, some ds => some (d :: ds) | _, _ => none) = _
    rw [pdVL_iv n a, show pdV n (.int x) = some (.int x) by cases n <;> rfl]; rfl
theorem pdV_tup_iv (n : Nat) (a : List Int) : pdV (n + 1) (.tup (iv a)) = some (.tuple (a.map PyData.int)) := by
  show (pdVL (pdV n) (iv a)).map PyData.tuple = _
  rw [pdVL_iv]; rfl
theorem pdV_lst_iv (n : Nat) (a : List Int) : pdV (n + 1) (.lst (iv a)) = some (.list (a.map PyData.int)) := by
  show (pdVL (pdV n) (iv a)).map PyData.list = _
  rw [pdVL_iv]; rfl
theorem lay_ints : ∀ a : List Int, PyData.canLayAll0 (a.map PyData.int) = true
  | [] => by simp [PyData.canLayAll0]
  | x :: a => by simp [PyData.canLayAll0, PyData.canLay0, lay_ints a]
theorem depth_ints : ∀ a : List Int, PyData.depthAll (a.map PyData.int) = 0
  | [] => by simp [PyData.depthAll]
  | x :: a => by simp [PyData.depthAll, PyData.depth, depth_ints a]
theorem eqv_ints : ∀ a b : List Int, PyData.eqvAll (a.map PyData.int) (b.map PyData.int) = (a == b)
  | [], [] => by simp [PyData.eqvAll]
  | [], _ :: _ => by simp [PyData.eqvAll]
  | _ :: _, [] => by simp [PyData.eqvAll]
  | x :: a, y :: b => by
    simp only [List.map_cons, PyData.eqvAll, PyData.eqv, eqv_ints a b]
    rfl
theorem shaped_tup (a : List Int) : SeqAt.shaped (.tuple (a.map PyData.int)) = true := by
  unfold SeqAt.shaped
  simp [PyData.canLay0, lay_ints, PyData.depth, depth_ints]
theorem shaped_lst (a : List Int) : SeqAt.shaped (.list (a.map PyData.int)) = true := by
  unfold SeqAt.shaped
  simp [PyData.canLay0, lay_ints, PyData.depth, depth_ints]
theorem eqD_iv (neg : Bool) (a b : List Int) : eqD neg (.tup (iv a)) (.tup (iv b)) = some (.bl (if neg = true then !(a == b) else (a == b))) := by
  unfold eqD
  rw [pdV_tup_iv 59 a, pdV_tup_iv 59 b]
  simp only
  rw [if_pos ⟨shaped_tup a, shaped_tup b⟩, show PyData.eqv (.tuple (a.map PyData.int)) (.tuple (b.map PyData.int)) = (a == b) from by simp only [PyData.eqv, eqv_ints]]
theorem vEq_iv (a b : List Int) : vEq (.tup (iv a)) (.tup (iv b)) = some (.bl (a == b)) := eqD_iv false a b
theorem vNe_iv (a b : List Int) : vNe (.tup (iv a)) (.tup (iv b)) = some (.bl (!(a == b))) := eqD_iv true a b
theorem vNe_same (a : List Int) : vNe (.tup (iv a)) (.tup (iv a)) = some (.bl false) := by rw [vNe_iv, beq_self_eq_true]; rfl
theorem vEq_same (a : List Int) : vEq (.tup (iv a)) (.tup (iv a)) = some (.bl true) := by rw [vEq_iv, beq_self_eq_true]
theorem vNe_str (t : Str) : vNe (.str t) (.str t) = some (.bl false) := by
  show some (PV.bl (!(t == t))) = _
  rw [beq_self_eq_true]; rfl
theorem lam_of {τ : Tb} {vt : M → TR → FR} {own : List Nat} {body : VE} {s s' : VS} {e v : PV} (hb : body (wipeV s own) = .xc e s') (ht : ∀ lam, vt lam (.xc e) = .ok v []) : vLam own vt body s = .ok v s :=
  vLam_eq fun lam => by rw [hb]; exact ht lam
theorem lam_ok {τ : Tb} {vt : M → TR → FR} {own : List Nat} {body : VE} {s s' : VS} {x v : PV} (hb : body (wipeV s own) = .ok x s') (ht : ∀ lam, vt lam (.ok x) = .ok v []) : vLam own vt body s = .ok v s :=
  vLam_eq fun lam => by rw [hb]; exact ht lam
theorem shd_iv {n : Nat} {l : List Int} {b : Nat} (m : Nat) (h : ∀ z ∈ l, z.natAbs < 2 ^ b) (hb : b ≤ 1920) (hl : l.length ≤ m) (h0 : 0 < b := by decide) : ShD (n + 1) (.tup (iv l)) (m * (b + 3) + 3) :=
  shd_tup (B := b + 1) m (fun x hx => by
    obtain ⟨z, hz, rfl⟩ := List.mem_map.mp hx
    exact shd_int n (h z hz) hb h0) (by simpa using hl)
end Dn
end
section
set_option maxHeartbeats 2000000
namespace Dn
open PySem PySem.Spec PyProof.Rows Mn Vn
open L2 (atI ixN)
local macro_rules | `(tactic| walk_at "ve") => `(tactic| first | done | try simp only [e_vSeq, e_vIf, e_vAsg, e_vgN, e_vAsgO, e_isObj_lst, e_isObj_dct, e_vRet, e_vDrop, e_vNext, e_vBrk, e_vCnt, e_vTst, e_vOp, e_vOpL, e_vCon, e_vUn, e_vAndT, e_vOrT, e_vNotT, e_vAndV_t, e_vOrV_t, e_vNotE_t, e_andK_bl, e_orK_bl, e_notK_bl, e_vIfE, e_vChain_t, e_chK_bl, e_vNil, e_vCons, e_vConsL, e_vConsO, e_vFn, e_vLst, e_vTup, e_vDct0, e_vCall, e_vBind, e_pick_nil, e_vFor, e_vIt, e_vSeqI, e_vSl, e_vSlL, e_voNo, e_voSome, e_intO, e_vSub, e_vLt, e_vLe, e_vGt, e_vGe, e_vAnd, e_vAddI, e_vNeg, e_vMin2, e_vMax2, e_itemsV_tup, e_itemsV_lst, e_itemsV_rol, e_lenV_tup, e_lenV_lst, e_lenV_rol, e_vPar_t, e_parK_2, e_vPar3_t, e_par3K_3, e_vRaise_t, e_raiK_1, e_vgT_t, e_vgL_t, e_vgsCons_t, e_vgsNil_t, e_setL, e_vAppend_t, e_appK_1, e_app2K_1, e_vPop_t, e_popK_1, e_pop2K_1, e_vReverse_t, e_revK_1, e_vSetSub_t, e_ssK_1, e_ss2K_1, e_ss3K_1, e_vAug_t, e_augK_1, e_vAugS_t, e_asK_1, e_as2K_1, e_as3K_1, e_as4K_1, e_as5K_1, e_vTry_t, e_tryK_nx, e_tryK_rt, e_suf_nx, e_suf_rt, e_vXf, e_vYes, e_vComp, e_vBm, e_refItems_lst, e_vVar_t, e_varK, e_ownL, e_ownK, e_pick0, e_pick1, e_pick2, e_pick3, e_pick4, e_startV, e_vAsgT, finV_rt0, finV_nx0, finV_xc0, st_ok, st_xc, seq_nx, seq_rt, seq_br, seq_ct, seq_xc, oS_some, tst_bl, opt_some, bind_ok, bind_xc, f1_eq, f2I_eq, toE_ok, toE_xc, setM_nil, setM_cons, vI_int, vAdd_int, ix_lst, ix_tup, ix_rol, List.getElem?_cons_zero, List.getElem?_cons_succ, List.set_cons_zero, List.set_cons_succ, List.length_cons, List.length_nil, List.cons_append, List.nil_append, List.append_nil, Option.bind_some, decide_eq_true_eq, Bool.not_eq_true', decide_eq_false_iff_not, if_true, List.map_cons, List.map_nil, Nat.sub_self, List.replicate_succ, List.replicate_zero, Nat.reduceAdd, Nat.reduceLeDiff, lt_sz0, lt_sz1, lt_sz2, lt_sz3, lt_sz4, lt_sz5, if_false, Bool.false_eq_true, Bool.true_eq_false, and_self, Bool.not_true, Bool.not_false])
local macro_rules | `(tactic| walk_at "fin") => `(tactic| first | done | try simp only [finV, ioAll, ioOut, List.all_cons, List.all_nil, List.map_cons, List.map_nil, List.getElem?_cons_zero, List.getElem?_cons_succ, Option.join_some, Option.isSome_some, Option.getD_some, Bool.and_self, if_true])
/-- what a value is as a row: none for a row, else the field by which it is refused -/
inductive Kind : PV → Option PV → Prop
  | row {l : List Int} : Row l → Kind (.tup (iv l)) none
  | form {x : PV} : Ord x → (∀ ys, x = .tup ys → ys.length = 0 ∨ 41 < ys.length) → Kind x (some .non)
  | item {xs : List PV} {i : Nat} {x : PV} : 1 ≤ xs.length → xs.length ≤ 41 → (∀ y ∈ xs, Ord y) → (∀ j, j < i → ∃ z, xs[j]? = some (.int z)) → xs[i]? = some x → isInt x none none = false → Kind (.tup xs) (some (.int (i : Int)))
  | last {l : List Int} {z : Int} : 1 ≤ l.length → l.length ≤ 41 → l.getLast? = some z → z ≠ 1 → Kind (.tup (iv l)) (some (.str "last"))
theorem int_or {x : PV} : isInt x none none = true ↔ ∃ z, x = .int z := by
  cases x <;> simp [isInt, inB]
theorem first_bad : ∀ xs : List PV, (∃ l : List Int, xs = iv l) ∨ ∃ (i : Nat) (x : PV), (∀ j, j < i → ∃ z, xs[j]? = some (PV.int z)) ∧ xs[i]? = some x ∧ isInt x none none = false
  | [] => .inl ⟨[], rfl⟩
  | x :: xs => by
    cases hx : isInt x none none with
    | false => exact .inr ⟨0, x, fun j hj => absurd hj (Nat.not_lt_zero j), rfl, hx⟩
    | true =>
      obtain ⟨z, rfl⟩ := int_or.mp hx
      rcases first_bad xs with ⟨l, rfl⟩ | ⟨i, y, h1, h2, h3⟩
      · exact .inl ⟨z :: l, rfl⟩
      · refine .inr ⟨i + 1, y, fun j hj => ?_, h2, h3⟩
        cases j with
        | zero => exact ⟨z, rfl⟩
        | succ j => exact h1 j (by omega)
theorem kind_of {x : PV} (ho : Ord x) (h : ∀ ys, x = .tup ys → ∀ y ∈ ys, Ord y) : ∃ f, Kind x f := by
  by_cases ht : ∃ ys, x = .tup ys
  · obtain ⟨ys, rfl⟩ := ht
    by_cases hl : 1 ≤ ys.length ∧ ys.length ≤ 41
    · rcases first_bad ys with ⟨l, rfl⟩ | ⟨i, y, h1, h2, h3⟩
      · rw [List.length_map] at hl
        obtain ⟨z, hz⟩ : ∃ z, l.getLast? = some z := ⟨l.getLast (List.length_pos_iff.mp hl.1), List.getLast?_eq_some_getLast _⟩
        by_cases h1 : z = 1
        · subst h1; exact ⟨_, .row ⟨hl.1, hl.2, hz⟩⟩
        · exact ⟨_, .last hl.1 hl.2 hz h1⟩
      · exact ⟨_, .item hl.1 hl.2 (h ys rfl) h1 h2 h3⟩
    · exact ⟨_, .form ho fun zs e => by cases e; omega⟩
  · exact ⟨_, .form ho fun ys e => absurd ⟨ys, e⟩ ht⟩
def chk : Option PV → FR
  | none => .ok .non []
  | some f => .xc (.exc "InvalidRow" ["position"] [f]) []
theorem check_kind {x : PV} {f : Option PV} (k : Kind x f) : V_check_row [x] = chk f := by
  cases k with
  | row r => exact check_row_ok r
  | form ho h => exact check_row_form ho h
  | item h1 hl ho g hx hb => exact row_bad h1 hl g hx (ho _ (List.mem_of_getElem? hx)) hb
  | last h1 hl h hz => exact check_row_last h1 hl h hz
end Dn
end
section
set_option maxHeartbeats 2000000
namespace Dn
open PySem PySem.Spec PyProof.Rows Mn Vn
open L2 (atI ixN)
local macro_rules | `(tactic| walk_at "ve") => `(tactic| first | done | try simp only [e_vSeq, e_vIf, e_vAsg, e_vgN, e_vAsgO, e_isObj_lst, e_isObj_dct, e_vRet, e_vDrop, e_vNext, e_vBrk, e_vCnt, e_vTst, e_vOp, e_vOpL, e_vCon, e_vUn, e_vAndT, e_vOrT, e_vNotT, e_vAndV_t, e_vOrV_t, e_vNotE_t, e_andK_bl, e_orK_bl, e_notK_bl, e_vIfE, e_vChain_t, e_chK_bl, e_vNil, e_vCons, e_vConsL, e_vConsO, e_vFn, e_vLst, e_vTup, e_vDct0, e_vCall, e_vBind, e_pick_nil, e_vFor, e_vIt, e_vSeqI, e_vSl, e_vSlL, e_voNo, e_voSome, e_intO, e_vSub, e_vSubI, e_vSubB, e_vLt, e_vLe, e_vGt, e_vGe, e_vAnd, e_vAddI, e_vNeg, e_vMin2, e_vMax2, e_itemsV_tup, e_itemsV_lst, e_itemsV_rol, e_lenV_tup, e_lenV_lst, e_lenV_rol, e_vPar_t, e_parK_2, e_vPar3_t, e_par3K_3, e_vRaise_t, e_raiK_1, e_vgT_t, e_vgL_t, e_vgsCons_t, e_vgsNil_t, e_setL, e_vAppend_t, e_appK_1, e_app2K_1, e_vPop_t, e_popK_1, e_pop2K_1, e_vReverse_t, e_revK_1, e_vSetSub_t, e_ssK_1, e_ss2K_1, e_ss3K_1, e_vAug_t, e_augK_1, e_vAugS_t, e_asK_1, e_as2K_1, e_as3K_1, e_as4K_1, e_as5K_1, e_vTry_t, e_tryK_nx, e_tryK_rt, e_suf_nx, e_suf_rt, e_vXf, e_vYes, e_vComp, e_vBm, e_refItems_lst, e_vVar_t, e_varK, e_ownL, e_ownK, e_pick0, e_pick1, e_pick2, e_pick3, e_pick4, e_startV, e_vAsgT, finV_rt0, finV_nx0, finV_xc0, st_ok, st_xc, seq_nx, seq_rt, seq_br, seq_ct, seq_xc, oS_some, tst_bl, opt_some, bind_ok, bind_xc, f1_eq, f2I_eq, toE_ok, toE_xc, setM_nil, setM_cons, vI_int, vAdd_int, ix_lst, ix_tup, ix_rol, List.getElem?_cons_zero, List.getElem?_cons_succ, List.set_cons_zero, List.set_cons_succ, List.length_cons, List.length_nil, List.cons_append, List.nil_append, List.append_nil, Option.bind_some, decide_eq_true_eq, Bool.not_eq_true', decide_eq_false_iff_not, if_true, List.map_cons, List.map_nil, Nat.sub_self, List.replicate_succ, List.replicate_zero, Nat.reduceAdd, Nat.reduceLeDiff, lt_sz0, lt_sz1, lt_sz2, lt_sz3, lt_sz4, lt_sz5, if_false, Bool.false_eq_true, Bool.true_eq_false, and_self, Bool.not_true, Bool.not_false])
local macro_rules | `(tactic| simp_arith [$ls,*]) => `(tactic| simp (disch := first | omega | decide | (simp only [List.length_map, List.length_append, List.length_cons, List.length_nil, List.length_take, List.length_drop, List.length_replicate, List.length_reverse, List.length_dropLast, List.length_tail]; omega)) only [e_vSeq, e_vIf, e_vAsg, e_vgN, e_vAsgO, e_isObj_lst, e_isObj_dct, e_vRet, e_vDrop, e_vNext, e_vBrk, e_vCnt, e_vTst, e_vOp, e_vOpL, e_vCon, e_vUn, e_vAndT, e_vOrT, e_vNotT, e_vAndV_t, e_vOrV_t, e_vNotE_t, e_andK_bl, e_orK_bl, e_notK_bl, e_vIfE, e_vChain_t, e_chK_bl, e_vNil, e_vCons, e_vConsL, e_vConsO, e_vFn, e_vLst, e_vTup, e_vDct0, e_vCall, e_vBind, e_pick_nil, e_vFor, e_vIt, e_vSeqI, e_vSl, e_vSlL, e_voNo, e_voSome, e_intO, e_vSub, e_vSubI, e_vSubB, e_vLt, e_vLe, e_vGt, e_vGe, e_vAnd, e_vAddI, e_vNeg, e_vMin2, e_vMax2, e_itemsV_tup, e_itemsV_lst, e_itemsV_rol, e_lenV_tup, e_lenV_lst, e_lenV_rol, e_vPar_t, e_parK_2, e_vPar3_t, e_par3K_3, e_vRaise_t, e_raiK_1, e_vgT_t, e_vgL_t, e_vgsCons_t, e_vgsNil_t, e_setL, e_vAppend_t, e_appK_1, e_app2K_1, e_vPop_t, e_popK_1, e_pop2K_1, e_vReverse_t, e_revK_1, e_vSetSub_t, e_ssK_1, e_ss2K_1, e_ss3K_1, e_vAug_t, e_augK_1, e_vAugS_t, e_asK_1, e_as2K_1, e_as3K_1, e_as4K_1, e_as5K_1, e_vTry_t, e_tryK_nx, e_tryK_rt, e_suf_nx, e_suf_rt, e_vXf, e_vYes, e_vComp, e_vBm, e_refItems_lst, e_vVar_t, e_varK, e_ownL, e_ownK, e_pick0, e_pick1, e_pick2, e_pick3, e_pick4, e_startV, e_vAsgT, finV_rt0, finV_nx0, finV_xc0, st_ok, st_xc, seq_nx, seq_rt, seq_br, seq_ct, seq_xc, oS_some, tst_bl, opt_some, bind_ok, bind_xc, f1_eq, f2I_eq, toE_ok, toE_xc, setM_nil, setM_cons, vI_int, vAdd_int, ix_lst, ix_tup, ix_rol, List.getElem?_cons_zero, List.getElem?_cons_succ, List.set_cons_zero, List.set_cons_succ, List.length_cons, List.length_nil, List.cons_append, List.nil_append, List.append_nil, Option.bind_some, decide_eq_true_eq, Bool.not_eq_true', decide_eq_false_iff_not, if_true, List.map_cons, List.map_nil, Nat.sub_self, List.replicate_succ, List.replicate_zero, Nat.reduceAdd, Nat.reduceLeDiff, lt_sz0, lt_sz1, lt_sz2, lt_sz3, lt_sz4, lt_sz5, if_false, Bool.false_eq_true, Bool.true_eq_false, and_self, Bool.not_true, Bool.not_false, e_vKill, e_vKillC, e_kilK_nx, e_kilK_rt, e_kilK_br, e_kilK_ct, e_kilK_xc, e_kilC_ct, e_wipeV_nil, e_wipeV_cons, e_backV_nil, e_backV_cons, e_loop_nil, e_loop_cons, e_loK, e_loK_nx, e_loK_ct, e_loK_br, e_loK_rt, e_loK_xc, e_vLam, e_runV, e_fin1_rt, e_fin1_nx, e_fin1_xc, e_fin1K, e_fin1X, e_vEq_int, e_vNe_int, e_vEq_bl, e_vNe_bl, e_vEq_str, e_vNe_str, e_vIs_non, e_vIs_int, e_vIs_tup, e_vIs_lst, e_vIs_bl, e_vIsNot_non, e_vIsNot_int, e_vIsNot_tup, e_vIsNot_lst, ti_int, ti_bool, ti_str, ti_tuple, tb_int, tb_bool, tb_tuple, tt_int, tt_tuple, tt_str, tl_tuple, tl_int, ts_tuple, ts_int, ts_str, tn_tuple, tn_int, tn_str, td_tuple, td_int, atI_zero, atI_one, atI_two, sl_tup, sl_lst, cut_1, cut_all, cut_less1, tuple_lst, tuple_tup, list_lst, list_tup, e_enum_tup, e_enum_lst, e_enumI_nil, e_enumI_cons, vAdd_lst, vAdd_tup, atI_nat, revV_tup, revV_lst, List.length_map, List.length_append, List.length_reverse, List.length_tail, List.length_dropLast, Option.map_some, Option.map_none, Option.bind_none, Option.join_none, Option.join_some, Option.getD_some, List.getLast?_cons_cons, List.getLast?_singleton, List.getLast?_concat, List.dropLast_concat, Nat.reduceSub, Nat.reduceLT, Nat.reduceEqDiff, Int.reduceNeg, Int.reduceToNat, Bool.and_true, Bool.true_and, Bool.and_false, Bool.false_and, Bool.or_true, Bool.true_or, Bool.or_false, Bool.false_or, beq_self_eq_true, bne_self_eq_false, decide_true, decide_false, not_true_eq_false, not_false_eq_true, eq_self, ne_eq, e_vEqN_nil, e_vEqN_cons, vPow_l, vMul_sm, vFdiv_l, vMod_pos, rng1_l, rng2_l, Int.toNat_natCast, Int.reducePow, Int.reduceAdd, Int.reduceSub, Int.reduceMul, Int.add_zero, Int.zero_add, Int.sub_zero, $ls,*])
local macro_rules | `(tactic| simp_arith! [$ls,*]) => `(tactic| simp only [e_vSeq, e_vIf, e_vAsg, e_vgN, e_vAsgO, e_isObj_lst, e_isObj_dct, e_vRet, e_vDrop, e_vNext, e_vBrk, e_vCnt, e_vTst, e_vOp, e_vOpL, e_vCon, e_vUn, e_vAndT, e_vOrT, e_vNotT, e_vAndV_t, e_vOrV_t, e_vNotE_t, e_andK_bl, e_orK_bl, e_notK_bl, e_vIfE, e_vChain_t, e_chK_bl, e_vNil, e_vCons, e_vConsL, e_vConsO, e_vFn, e_vLst, e_vTup, e_vDct0, e_vCall, e_vBind, e_pick_nil, e_vFor, e_vIt, e_vSeqI, e_vSl, e_vSlL, e_voNo, e_voSome, e_intO, e_vSub, e_vSubI, e_vSubB, e_vLt, e_vLe, e_vGt, e_vGe, e_vAnd, e_vAddI, e_vNeg, e_vMin2, e_vMax2, e_itemsV_tup, e_itemsV_lst, e_itemsV_rol, e_lenV_tup, e_lenV_lst, e_lenV_rol, e_vPar_t, e_parK_2, e_vPar3_t, e_par3K_3, e_vRaise_t, e_raiK_1, e_vgT_t, e_vgL_t, e_vgsCons_t, e_vgsNil_t, e_setL, e_vAppend_t, e_appK_1, e_app2K_1, e_vPop_t, e_popK_1, e_pop2K_1, e_vReverse_t, e_revK_1, e_vSetSub_t, e_ssK_1, e_ss2K_1, e_ss3K_1, e_vAug_t, e_augK_1, e_vAugS_t, e_asK_1, e_as2K_1, e_as3K_1, e_as4K_1, e_as5K_1, e_vTry_t, e_tryK_nx, e_tryK_rt, e_suf_nx, e_suf_rt, e_vXf, e_vYes, e_vComp, e_vBm, e_refItems_lst, e_vVar_t, e_varK, e_ownL, e_ownK, e_pick0, e_pick1, e_pick2, e_pick3, e_pick4, e_startV, e_vAsgT, finV_rt0, finV_nx0, finV_xc0, st_ok, st_xc, seq_nx, seq_rt, seq_br, seq_ct, seq_xc, oS_some, tst_bl, opt_some, bind_ok, bind_xc, f1_eq, f2I_eq, toE_ok, toE_xc, setM_nil, setM_cons, vI_int, vAdd_int, ix_lst, ix_tup, ix_rol, List.getElem?_cons_zero, List.getElem?_cons_succ, List.set_cons_zero, List.set_cons_succ, List.length_cons, List.length_nil, List.cons_append, List.nil_append, List.append_nil, Option.bind_some, decide_eq_true_eq, Bool.not_eq_true', decide_eq_false_iff_not, if_true, List.map_cons, List.map_nil, Nat.sub_self, List.replicate_succ, List.replicate_zero, Nat.reduceAdd, Nat.reduceLeDiff, lt_sz0, lt_sz1, lt_sz2, lt_sz3, lt_sz4, lt_sz5, if_false, Bool.false_eq_true, Bool.true_eq_false, and_self, Bool.not_true, Bool.not_false, e_vKill, e_vKillC, e_kilK_nx, e_kilK_rt, e_kilK_br, e_kilK_ct, e_kilK_xc, e_kilC_ct, e_wipeV_nil, e_wipeV_cons, e_backV_nil, e_backV_cons, e_loop_nil, e_loop_cons, e_loK, e_loK_nx, e_loK_ct, e_loK_br, e_loK_rt, e_loK_xc, e_vLam, e_runV, e_fin1_rt, e_fin1_nx, e_fin1_xc, e_fin1K, e_fin1X, e_vEq_int, e_vNe_int, e_vEq_bl, e_vNe_bl, e_vEq_str, e_vNe_str, e_vIs_non, e_vIs_int, e_vIs_tup, e_vIs_lst, e_vIs_bl, e_vIsNot_non, e_vIsNot_int, e_vIsNot_tup, e_vIsNot_lst, ti_int, ti_bool, ti_str, ti_tuple, tb_int, tb_bool, tb_tuple, tt_int, tt_tuple, tt_str, tl_tuple, tl_int, ts_tuple, ts_int, ts_str, tn_tuple, tn_int, tn_str, td_tuple, td_int, atI_zero, atI_one, atI_two, sl_tup, sl_lst, cut_1, cut_all, cut_less1, tuple_lst, tuple_tup, list_lst, list_tup, e_enum_tup, e_enum_lst, e_enumI_nil, e_enumI_cons, vAdd_lst, vAdd_tup, atI_nat, revV_tup, revV_lst, List.length_map, List.length_append, List.length_reverse, List.length_tail, List.length_dropLast, Option.map_some, Option.map_none, Option.bind_none, Option.join_none, Option.join_some, Option.getD_some, List.getLast?_cons_cons, List.getLast?_singleton, List.getLast?_concat, List.dropLast_concat, Nat.reduceSub, Nat.reduceLT, Nat.reduceEqDiff, Int.reduceNeg, Int.reduceToNat, Bool.and_true, Bool.true_and, Bool.and_false, Bool.false_and, Bool.or_true, Bool.true_or, Bool.or_false, Bool.false_or, beq_self_eq_true, bne_self_eq_false, decide_true, decide_false, not_true_eq_false, not_false_eq_true, eq_self, ne_eq, e_vEqN_nil, e_vEqN_cons, Int.toNat_natCast, Int.reducePow, Int.reduceAdd, Int.reduceSub, Int.reduceMul, Int.add_zero, Int.zero_add, Int.sub_zero, $ls,*])
-- imports: PBase P_eq P_same
/-- the turns of a law: the count of the draws grows by at most c each turn -/
theorem turns (S : Int → VS) {g : VG} {b : VSt} {m : Nat} (c : Nat) {k0 : Int} (h : ∀ (i : Nat) (k : Int), i < m → k0 ≤ k → k ≤ k0 + (c : Int) * i → ∃ k' s1, k ≤ k' ∧ k' ≤ k + c ∧ g (.int (i : Int)) (S k) = some s1 ∧ b s1 = .nx (S k')) :
    ∃ k', k0 ≤ k' ∧ k' ≤ k0 + (c : Int) * m ∧ vLoop g b (rngV 0 m) (S k0) = .nx (S k') := by
  obtain ⟨s, e, k', h1, h2, rfl⟩ := loop_all (g := g) (b := b) (xs := rngV 0 m) (fun i s => ∃ k, k0 ≤ k ∧ k ≤ k0 + (c : Int) * (i : Int) ∧ s = S k) (s := S k0) ⟨k0, Int.le_refl _, by simp, rfl⟩ (by
    rintro i x s hx ⟨k, a1, a2, rfl⟩
    obtain ⟨hi, rfl⟩ := rngV_at hx
    obtain ⟨k', s1, b1, b2, e1, e2⟩ := h i k hi a1 a2
    refine ⟨s1, S k', by rw [Int.zero_add]; exact e1, .inl e2, k', by omega, ?_, rfl⟩
    have : (c : Int) * ((i + 1 : Nat) : Int) = (c : Int) * (i : Int) + c := by
      rw [Int.natCast_add, Int.mul_add]; simp
    omega)
  rw [rngV_len] at h2
  exact ⟨k', h1, h2, e⟩
theorem min9 (ns : List Int) (a : Nat) : ∃ m : Nat, m ≤ a + 9 ∧ (a : Int) + (if (ns.length : Int) < 9 then (ns.length : Int) else 9) = m := by
  split
  · exact ⟨a + ns.length, by omega, by omega⟩
  · exact ⟨a + 9, by omega, rfl⟩
theorem vMul_tup {xs : List PV} {k : Int} (h : -(2 ^ 63) ≤ k ∧ k ≤ 1000 ∧ xs.length ≤ 1000) : vMul (.tup xs) (.int k) = some (.tup (List.replicate k.toNat xs).flatten) := if_pos h
theorem vMul_tup1 {x : PV} {k : Int} (h : -(2 ^ 63) ≤ k ∧ k ≤ 1000) : vMul (.tup [x]) (.int k) = some (.tup (List.replicate k.toNat x)) := by
  rw [vMul_tup ⟨h.1, h.2, by simp⟩, List.flatten_replicate_singleton]
theorem vMul_lst1 {x : PV} {k : Int} (h : -(2 ^ 63) ≤ k ∧ k ≤ 1000000) : vMul (.lst [x]) (.int k) = some (.lst (List.replicate k.toNat x)) := by
  unfold vMul
  show (if -(2 ^ 63) ≤ k ∧ k < 2 ^ 63 ∧ [x].length * k.toNat ≤ SZ then _ else _) = _
  rw [if_pos ⟨h.1, by omega, by show 1 * k.toNat ≤ 16777216; omega⟩, List.flatten_replicate_singleton]
theorem rep_iv (m : Nat) (z : Int) : List.replicate m (PV.int z) = List.map PV.int (List.replicate m z) := by rw [List.map_replicate]
theorem iv_append (a b : List Int) : List.map PV.int a ++ List.map PV.int b = List.map PV.int (a ++ b) := (List.map_append).symm
theorem loop_skip {g : VG} {b : VSt} {s : VS} : ∀ (pre r : List PV), (∀ x ∈ pre, ∃ s1, g x s = some s1 ∧ b s1 = .nx s) → vLoop g b (pre ++ r) s = vLoop g b r s
  | [], r, _ => rfl
  | x :: pre, r, h => by
    obtain ⟨s1, e1, e2⟩ := h x List.mem_cons_self
    rw [List.cons_append, e_loop_cons, e1, e_loK, e2, e_loK_nx]
    exact loop_skip pre r fun y hy => h y (List.mem_cons_of_mem _ hy)
theorem loop_same {g : VG} {b : VSt} {s : VS} (xs : List PV) (h : ∀ x ∈ xs, ∃ s1, g x s = some s1 ∧ b s1 = .nx s) : vLoop g b xs s = .nx s := by
  have := loop_skip xs [] h
  rwa [List.append_nil] at this
theorem rngV_split (lo : Int) (n : Nat) : ∀ (i : Nat) (_ : i ≤ n), rngV lo n = rngV lo i ++ rngV (lo + i) (n - i) := by
  induction n generalizing lo with
  | zero => intro i h; obtain rfl : i = 0 := by omega
            simp [rngV]
  | succ n ih =>
    intro i h
    cases i with
    | zero => simp [rngV_zero]
    | succ i =>
      rw [rngV_succ, rngV_succ, ih (lo + 1) i (by omega), List.cons_append]
      congr 2
      rw [show n + 1 - (i + 1) = n - i by omega]
      congr 1
      omega
theorem rngV_mem {lo : Int} {n : Nat} {x : PV} (h : x ∈ rngV lo n) : ∃ i : Nat, i < n ∧ x = .int (lo + i) := by
  unfold rngV at h
  obtain ⟨i, hi, rfl⟩ := List.mem_map.mp h
  exact ⟨i, List.mem_range.mp hi, rfl⟩
theorem enumI_append : ∀ (a b : List PV) (k : Nat), enumI k (a ++ b) = enumI k a ++ enumI (k + a.length) b
  | [], b, k => rfl
  | x :: a, b, k => by
    rw [List.cons_append, e_enumI_cons, e_enumI_cons, enumI_append a b (k + 1), List.cons_append, List.length_cons, show k + 1 + a.length = k + (a.length + 1) by omega]
theorem enumI_mem {xs : List PV} {k : Nat} {y : PV} (h : y ∈ enumI k xs) : ∃ (i : Nat) (x : PV), xs[i]? = some x ∧ y = .tup [.int ((k + i : Nat) : Int), x] := by
  induction xs generalizing k with
  | nil => cases h
  | cons x r ih =>
    rcases List.mem_cons.mp h with rfl | h
    · exact ⟨0, x, rfl, rfl⟩
    · obtain ⟨i, z, h1, rfl⟩ := ih h
      exact ⟨i + 1, z, h1, by rw [show k + 1 + i = k + (i + 1) by omega]⟩
theorem allV_bls (bs : List Bool) : allV (.lst (bs.map PV.bl)) = some (.bl (bs.all id)) := by
  show ((blsV (bs.map PV.bl)).map fun bs => PV.bl (bs.all id)) = _
  rw [blsV_map]; rfl
theorem anyV_bls (bs : List Bool) : anyV (.lst (bs.map PV.bl)) = some (.bl (bs.any id)) := by
  show ((blsV (bs.map PV.bl)).map fun bs => PV.bl (bs.any id)) = _
  rw [blsV_map]; rfl
theorem pick3 {a b c i : Int} (h0 : 0 ≤ i) (h1 : i < 3) : atI [PV.int a, .int b, .int c] i = some (.int (if i = 0 then a else if i = 1 then b else c)) := by
  rcases (show i = 0 ∨ i = 1 ∨ i = 2 by omega) with rfl | rfl | rfl <;> simp [atI_zero, atI_one, atI_two]
theorem pick2 {a b i : Int} (h0 : 0 ≤ i) (h1 : i < 2) : atI [PV.int a, .int b] i = some (.int (if i = 0 then a else b)) := by
  rcases (show i = 0 ∨ i = 1 by omega) with rfl | rfl <;> simp [atI_zero, atI_one]
theorem pick4 {a b c d i : Int} (h0 : 0 ≤ i) (h1 : i < 4) : atI [PV.int a, .int b, .int c, .int d] i = some (.int (if i = 0 then a else if i = 1 then b else if i = 2 then c else d)) := by
  rcases (show i = 0 ∨ i = 1 ∨ i = 2 ∨ i = 3 by omega) with rfl | rfl | rfl | rfl <;> first | (simp [atI_zero, atI_one, atI_two]; done) | (rw [show (3 : Int) = ((3 : Nat) : Int) from rfl, atI_nat]; rfl)

end Dn
end
section
set_option maxHeartbeats 2000000
namespace Dn
open PySem PySem.Spec PyProof.Rows Mn Vn
open L2 (atI ixN)
local macro_rules | `(tactic| walk_at "ve") => `(tactic| first | done | try simp only [e_vSeq, e_vIf, e_vAsg, e_vgN, e_vAsgO, e_isObj_lst, e_isObj_dct, e_vRet, e_vDrop, e_vNext, e_vBrk, e_vCnt, e_vTst, e_vOp, e_vOpL, e_vCon, e_vUn, e_vAndT, e_vOrT, e_vNotT, e_vAndV_t, e_vOrV_t, e_vNotE_t, e_andK_bl, e_orK_bl, e_notK_bl, e_vIfE, e_vChain_t, e_chK_bl, e_vNil, e_vCons, e_vConsL, e_vConsO, e_vFn, e_vLst, e_vTup, e_vDct0, e_vCall, e_vBind, e_pick_nil, e_vFor, e_vIt, e_vSeqI, e_vSl, e_vSlL, e_voNo, e_voSome, e_intO, e_vSub, e_vSubI, e_vSubB, e_vLt, e_vLe, e_vGt, e_vGe, e_vAnd, e_vAddI, e_vNeg, e_vMin2, e_vMax2, e_itemsV_tup, e_itemsV_lst, e_itemsV_rol, e_lenV_tup, e_lenV_lst, e_lenV_rol, e_vPar_t, e_parK_2, e_vPar3_t, e_par3K_3, e_vRaise_t, e_raiK_1, e_vgT_t, e_vgL_t, e_vgsCons_t, e_vgsNil_t, e_setL, e_vAppend_t, e_appK_1, e_app2K_1, e_vPop_t, e_popK_1, e_pop2K_1, e_vReverse_t, e_revK_1, e_vSetSub_t, e_ssK_1, e_ss2K_1, e_ss3K_1, e_vAug_t, e_augK_1, e_vAugS_t, e_asK_1, e_as2K_1, e_as3K_1, e_as4K_1, e_as5K_1, e_vTry_t, e_tryK_nx, e_tryK_rt, e_suf_nx, e_suf_rt, e_vXf, e_vYes, e_vComp, e_vBm, e_refItems_lst, e_vVar_t, e_varK, e_ownL, e_ownK, e_pick0, e_pick1, e_pick2, e_pick3, e_pick4, e_startV, e_vAsgT, finV_rt0, finV_nx0, finV_xc0, st_ok, st_xc, seq_nx, seq_rt, seq_br, seq_ct, seq_xc, oS_some, tst_bl, opt_some, bind_ok, bind_xc, f1_eq, f2I_eq, toE_ok, toE_xc, setM_nil, setM_cons, vI_int, vAdd_int, ix_lst, ix_tup, ix_rol, List.getElem?_cons_zero, List.getElem?_cons_succ, List.set_cons_zero, List.set_cons_succ, List.length_cons, List.length_nil, List.cons_append, List.nil_append, List.append_nil, Option.bind_some, decide_eq_true_eq, Bool.not_eq_true', decide_eq_false_iff_not, if_true, List.map_cons, List.map_nil, Nat.sub_self, List.replicate_succ, List.replicate_zero, Nat.reduceAdd, Nat.reduceLeDiff, lt_sz0, lt_sz1, lt_sz2, lt_sz3, lt_sz4, lt_sz5, if_false, Bool.false_eq_true, Bool.true_eq_false, and_self, Bool.not_true, Bool.not_false])
local macro_rules | `(tactic| simp_arith [$ls,*]) => `(tactic| simp (disch := first | omega | decide | (simp only [List.length_map, List.length_append, List.length_cons, List.length_nil, List.length_take, List.length_drop, List.length_replicate, List.length_reverse, List.length_dropLast, List.length_tail]; omega)) only [e_vSeq, e_vIf, e_vAsg, e_vgN, e_vAsgO, e_isObj_lst, e_isObj_dct, e_vRet, e_vDrop, e_vNext, e_vBrk, e_vCnt, e_vTst, e_vOp, e_vOpL, e_vCon, e_vUn, e_vAndT, e_vOrT, e_vNotT, e_vAndV_t, e_vOrV_t, e_vNotE_t, e_andK_bl, e_orK_bl, e_notK_bl, e_vIfE, e_vChain_t, e_chK_bl, e_vNil, e_vCons, e_vConsL, e_vConsO, e_vFn, e_vLst, e_vTup, e_vDct0, e_vCall, e_vBind, e_pick_nil, e_vFor, e_vIt, e_vSeqI, e_vSl, e_vSlL, e_voNo, e_voSome, e_intO, e_vSub, e_vSubI, e_vSubB, e_vLt, e_vLe, e_vGt, e_vGe, e_vAnd, e_vAddI, e_vNeg, e_vMin2, e_vMax2, e_itemsV_tup, e_itemsV_lst, e_itemsV_rol, e_lenV_tup, e_lenV_lst, e_lenV_rol, e_vPar_t, e_parK_2, e_vPar3_t, e_par3K_3, e_vRaise_t, e_raiK_1, e_vgT_t, e_vgL_t, e_vgsCons_t, e_vgsNil_t, e_setL, e_vAppend_t, e_appK_1, e_app2K_1, e_vPop_t, e_popK_1, e_pop2K_1, e_vReverse_t, e_revK_1, e_vSetSub_t, e_ssK_1, e_ss2K_1, e_ss3K_1, e_vAug_t, e_augK_1, e_vAugS_t, e_asK_1, e_as2K_1, e_as3K_1, e_as4K_1, e_as5K_1, e_vTry_t, e_tryK_nx, e_tryK_rt, e_suf_nx, e_suf_rt, e_vXf, e_vYes, e_vComp, e_vBm, e_refItems_lst, e_vVar_t, e_varK, e_ownL, e_ownK, e_pick0, e_pick1, e_pick2, e_pick3, e_pick4, e_startV, e_vAsgT, finV_rt0, finV_nx0, finV_xc0, st_ok, st_xc, seq_nx, seq_rt, seq_br, seq_ct, seq_xc, oS_some, tst_bl, opt_some, bind_ok, bind_xc, f1_eq, f2I_eq, toE_ok, toE_xc, setM_nil, setM_cons, vI_int, vAdd_int, ix_lst, ix_tup, ix_rol, List.getElem?_cons_zero, List.getElem?_cons_succ, List.set_cons_zero, List.set_cons_succ, List.length_cons, List.length_nil, List.cons_append, List.nil_append, List.append_nil, Option.bind_some, decide_eq_true_eq, Bool.not_eq_true', decide_eq_false_iff_not, if_true, List.map_cons, List.map_nil, Nat.sub_self, List.replicate_succ, List.replicate_zero, Nat.reduceAdd, Nat.reduceLeDiff, lt_sz0, lt_sz1, lt_sz2, lt_sz3, lt_sz4, lt_sz5, if_false, Bool.false_eq_true, Bool.true_eq_false, and_self, Bool.not_true, Bool.not_false, e_vKill, e_vKillC, e_kilK_nx, e_kilK_rt, e_kilK_br, e_kilK_ct, e_kilK_xc, e_kilC_ct, e_wipeV_nil, e_wipeV_cons, e_backV_nil, e_backV_cons, e_loop_nil, e_loop_cons, e_loK, e_loK_nx, e_loK_ct, e_loK_br, e_loK_rt, e_loK_xc, e_vLam, e_runV, e_fin1_rt, e_fin1_nx, e_fin1_xc, e_fin1K, e_fin1X, e_vEq_int, e_vNe_int, e_vEq_bl, e_vNe_bl, e_vEq_str, e_vNe_str, e_vIs_non, e_vIs_int, e_vIs_tup, e_vIs_lst, e_vIs_bl, e_vIsNot_non, e_vIsNot_int, e_vIsNot_tup, e_vIsNot_lst, ti_int, ti_bool, ti_str, ti_tuple, tb_int, tb_bool, tb_tuple, tt_int, tt_tuple, tt_str, tl_tuple, tl_int, ts_tuple, ts_int, ts_str, tn_tuple, tn_int, tn_str, td_tuple, td_int, atI_zero, atI_one, atI_two, sl_tup, sl_lst, cut_1, cut_all, cut_less1, tuple_lst, tuple_tup, list_lst, list_tup, e_enum_tup, e_enum_lst, e_enumI_nil, e_enumI_cons, vAdd_lst, vAdd_tup, atI_nat, revV_tup, revV_lst, List.length_map, List.length_append, List.length_reverse, List.length_tail, List.length_dropLast, Option.map_some, Option.map_none, Option.bind_none, Option.join_none, Option.join_some, Option.getD_some, List.getLast?_cons_cons, List.getLast?_singleton, List.getLast?_concat, List.dropLast_concat, Nat.reduceSub, Nat.reduceLT, Nat.reduceEqDiff, Int.reduceNeg, Int.reduceToNat, Bool.and_true, Bool.true_and, Bool.and_false, Bool.false_and, Bool.or_true, Bool.true_or, Bool.or_false, Bool.false_or, beq_self_eq_true, bne_self_eq_false, decide_true, decide_false, not_true_eq_false, not_false_eq_true, eq_self, ne_eq, e_vEqN_nil, e_vEqN_cons, vPow_l, vMul_sm, vFdiv_l, vMod_pos, rng1_l, rng2_l, Int.toNat_natCast, Int.reducePow, Int.reduceAdd, Int.reduceSub, Int.reduceMul, Int.add_zero, Int.zero_add, Int.sub_zero, $ls,*])
local macro_rules | `(tactic| simp_arith! [$ls,*]) => `(tactic| simp only [e_vSeq, e_vIf, e_vAsg, e_vgN, e_vAsgO, e_isObj_lst, e_isObj_dct, e_vRet, e_vDrop, e_vNext, e_vBrk, e_vCnt, e_vTst, e_vOp, e_vOpL, e_vCon, e_vUn, e_vAndT, e_vOrT, e_vNotT, e_vAndV_t, e_vOrV_t, e_vNotE_t, e_andK_bl, e_orK_bl, e_notK_bl, e_vIfE, e_vChain_t, e_chK_bl, e_vNil, e_vCons, e_vConsL, e_vConsO, e_vFn, e_vLst, e_vTup, e_vDct0, e_vCall, e_vBind, e_pick_nil, e_vFor, e_vIt, e_vSeqI, e_vSl, e_vSlL, e_voNo, e_voSome, e_intO, e_vSub, e_vSubI, e_vSubB, e_vLt, e_vLe, e_vGt, e_vGe, e_vAnd, e_vAddI, e_vNeg, e_vMin2, e_vMax2, e_itemsV_tup, e_itemsV_lst, e_itemsV_rol, e_lenV_tup, e_lenV_lst, e_lenV_rol, e_vPar_t, e_parK_2, e_vPar3_t, e_par3K_3, e_vRaise_t, e_raiK_1, e_vgT_t, e_vgL_t, e_vgsCons_t, e_vgsNil_t, e_setL, e_vAppend_t, e_appK_1, e_app2K_1, e_vPop_t, e_popK_1, e_pop2K_1, e_vReverse_t, e_revK_1, e_vSetSub_t, e_ssK_1, e_ss2K_1, e_ss3K_1, e_vAug_t, e_augK_1, e_vAugS_t, e_asK_1, e_as2K_1, e_as3K_1, e_as4K_1, e_as5K_1, e_vTry_t, e_tryK_nx, e_tryK_rt, e_suf_nx, e_suf_rt, e_vXf, e_vYes, e_vComp, e_vBm, e_refItems_lst, e_vVar_t, e_varK, e_ownL, e_ownK, e_pick0, e_pick1, e_pick2, e_pick3, e_pick4, e_startV, e_vAsgT, finV_rt0, finV_nx0, finV_xc0, st_ok, st_xc, seq_nx, seq_rt, seq_br, seq_ct, seq_xc, oS_some, tst_bl, opt_some, bind_ok, bind_xc, f1_eq, f2I_eq, toE_ok, toE_xc, setM_nil, setM_cons, vI_int, vAdd_int, ix_lst, ix_tup, ix_rol, List.getElem?_cons_zero, List.getElem?_cons_succ, List.set_cons_zero, List.set_cons_succ, List.length_cons, List.length_nil, List.cons_append, List.nil_append, List.append_nil, Option.bind_some, decide_eq_true_eq, Bool.not_eq_true', decide_eq_false_iff_not, if_true, List.map_cons, List.map_nil, Nat.sub_self, List.replicate_succ, List.replicate_zero, Nat.reduceAdd, Nat.reduceLeDiff, lt_sz0, lt_sz1, lt_sz2, lt_sz3, lt_sz4, lt_sz5, if_false, Bool.false_eq_true, Bool.true_eq_false, and_self, Bool.not_true, Bool.not_false, e_vKill, e_vKillC, e_kilK_nx, e_kilK_rt, e_kilK_br, e_kilK_ct, e_kilK_xc, e_kilC_ct, e_wipeV_nil, e_wipeV_cons, e_backV_nil, e_backV_cons, e_loop_nil, e_loop_cons, e_loK, e_loK_nx, e_loK_ct, e_loK_br, e_loK_rt, e_loK_xc, e_vLam, e_runV, e_fin1_rt, e_fin1_nx, e_fin1_xc, e_fin1K, e_fin1X, e_vEq_int, e_vNe_int, e_vEq_bl, e_vNe_bl, e_vEq_str, e_vNe_str, e_vIs_non, e_vIs_int, e_vIs_tup, e_vIs_lst, e_vIs_bl, e_vIsNot_non, e_vIsNot_int, e_vIsNot_tup, e_vIsNot_lst, ti_int, ti_bool, ti_str, ti_tuple, tb_int, tb_bool, tb_tuple, tt_int, tt_tuple, tt_str, tl_tuple, tl_int, ts_tuple, ts_int, ts_str, tn_tuple, tn_int, tn_str, td_tuple, td_int, atI_zero, atI_one, atI_two, sl_tup, sl_lst, cut_1, cut_all, cut_less1, tuple_lst, tuple_tup, list_lst, list_tup, e_enum_tup, e_enum_lst, e_enumI_nil, e_enumI_cons, vAdd_lst, vAdd_tup, atI_nat, revV_tup, revV_lst, List.length_map, List.length_append, List.length_reverse, List.length_tail, List.length_dropLast, Option.map_some, Option.map_none, Option.bind_none, Option.join_none, Option.join_some, Option.getD_some, List.getLast?_cons_cons, List.getLast?_singleton, List.getLast?_concat, List.dropLast_concat, Nat.reduceSub, Nat.reduceLT, Nat.reduceEqDiff, Int.reduceNeg, Int.reduceToNat, Bool.and_true, Bool.true_and, Bool.and_false, Bool.false_and, Bool.or_true, Bool.true_or, Bool.or_false, Bool.false_or, beq_self_eq_true, bne_self_eq_false, decide_true, decide_false, not_true_eq_false, not_false_eq_true, eq_self, ne_eq, e_vEqN_nil, e_vEqN_cons, Int.toNat_natCast, Int.reducePow, Int.reduceAdd, Int.reduceSub, Int.reduceMul, Int.add_zero, Int.zero_add, Int.sub_zero, $ls,*])
-- imports: P_wrong P_b2 D_law_wrong_5e57k D_is_row_1370k D_size_of_d075k D_height_of_25aek
def wrg : Option PV → List PV
  | none => []
  | some f => [f]
theorem not_int {x : PV} (ho : Ord x) (hi : isInt x none none = false) : (∃ b, x = .bl b) ∨ isiV xt0 [x, .ty "int"] = some (.bl false) := by
  obtain ⟨t, e, m⟩ := ho
  cases x with
  | int z => simp [isInt, inB] at hi
  | bl b => exact .inl ⟨b, rfl⟩
  | opq => cases e
  | exc => cases e
  | glo => cases e
  | ty => cases e
  | _ => exact .inr rfl
theorem wrong_step {xs : List PV} {i : Nat} {x : PV} (hx : xs[i]? = some x) (ho : Ord x) : v__law_wrong_1a_0 [some (.tup xs), some (.int (i : Int))] = if isInt x none none = true then .nx [some (.tup xs), none] else .rt (.lst [.int (i : Int)]) [some (.tup xs), some (.int (i : Int))] := by
  cases hi : isInt x none none with
  | true =>
    obtain ⟨z, rfl⟩ := int_or.mp hi
    simp_arith [congrFun (v__law_wrong_1a0a_0.eq_1), congrFun (v__law_wrong_1a_0.eq_1), hx]
  | false =>
    rcases not_int ho hi with ⟨b, rfl⟩ | e
    · simp_arith [congrFun (v__law_wrong_1a0a_0.eq_1), congrFun (v__law_wrong_1a_0.eq_1), hx]
    · simp_arith [congrFun (v__law_wrong_1a0a_0.eq_1), congrFun (v__law_wrong_1a_0.eq_1), hx, e]
theorem wrong_loop {l : List Int} : vLoop (vgN 1) v__law_wrong_1a_0 (rngV 0 l.length) [some (.tup (iv l)), none] = .nx [some (.tup (iv l)), none] := by
  refine loop_same _ fun x hx => ?_
  obtain ⟨i, hi, rfl⟩ := rngV_mem hx
  obtain ⟨z, hz⟩ := iv_get (l := l) (j := i) (by simpa using hi)
  refine ⟨[some (.tup (iv l)), some (.int (i : Int))], by rw [Int.zero_add]; rfl, ?_⟩
  rw [wrong_step hz (ord_int z)]; rfl
theorem rng1_len {n : Nat} (h : n < 1000000) : rng1 [.int (n : Int)] = some (rngV 0 n) := by
  rw [rng1_eq (by omega) (by omega), Int.toNat_natCast]
theorem last_at {l : List Int} {z : Int} (hz : l.getLast? = some z) : atI (iv l) ((l.length : Int) - 1) = some (.int z) := by
  have : 0 < l.length := List.length_pos_iff.mpr (by rintro rfl; cases hz)
  rw [show (l.length : Int) - 1 = ((l.length - 1 : Nat) : Int) by omega, atI_nat, List.getElem?_map, ← List.getLast?_eq_getElem?, hz]; rfl
theorem wrong_kind {x : PV} {f : Option PV} (k : Kind x f) : V__law_wrong [x] = .ok (.lst (wrg f)) [] := by
  cases k with
  | @row l r =>
    have h1 := r.pos
    have h2 := r.len
    simp_arith [congrFun (v__law_wrong_0a_0.eq_1), congrFun (v__law_wrong_1a0a_0.eq_1), congrFun (v__law_wrong_1a_0.eq_1), congrFun (v__law_wrong_2.eq_1), congrFun (v__law_wrong_1.eq_1), congrFun (v__law_wrong.eq_1), congrFun (V__law_wrong.eq_1), ifn, ifp, rng1_len (n := l.length) (by omega), wrong_loop, last_at r.last, wrg]
  | @last l z h1 h2 h3 h4 =>
    simp_arith [congrFun (v__law_wrong_0a_0.eq_1), congrFun (v__law_wrong_1a0a_0.eq_1), congrFun (v__law_wrong_1a_0.eq_1), congrFun (v__law_wrong_2.eq_1), congrFun (v__law_wrong_1.eq_1), congrFun (v__law_wrong.eq_1), congrFun (V__law_wrong.eq_1), ifn, ifp, rng1_len (n := l.length) (by omega), wrong_loop, last_at h3, h4, wrg]
  | form ho h =>
    by_cases ht : ∃ ys, x = .tup ys
    · obtain ⟨ys, rfl⟩ := ht
      rcases h ys rfl with e | e
      · simp_arith [congrFun (v__law_wrong_0a_0.eq_1), congrFun (v__law_wrong_1a0a_0.eq_1), congrFun (v__law_wrong_1a_0.eq_1), congrFun (v__law_wrong_2.eq_1), congrFun (v__law_wrong_1.eq_1), congrFun (v__law_wrong.eq_1), congrFun (V__law_wrong.eq_1), ifn, ifp, wrg, e]
      · simp_arith [congrFun (v__law_wrong_0a_0.eq_1), congrFun (v__law_wrong_1a0a_0.eq_1), congrFun (v__law_wrong_1a_0.eq_1), congrFun (v__law_wrong_2.eq_1), congrFun (v__law_wrong_1.eq_1), congrFun (v__law_wrong.eq_1), congrFun (V__law_wrong.eq_1), ifn, ifp, wrg]
    · simp_arith [congrFun (v__law_wrong_0a_0.eq_1), congrFun (v__law_wrong_1a0a_0.eq_1), congrFun (v__law_wrong_1a_0.eq_1), congrFun (v__law_wrong_2.eq_1), congrFun (v__law_wrong_1.eq_1), congrFun (v__law_wrong.eq_1), congrFun (V__law_wrong.eq_1), isi_no_tuple ho fun ys e => ht ⟨ys, e⟩, wrg]
  | @item xs i x h1 hl ho g hx hb =>
    have hi := (List.getElem?_eq_some_iff.mp hx).1
    have hl : vLoop (vgN 1) v__law_wrong_1a_0 (rngV 0 xs.length) [some (.tup xs), none] = .rt (.lst [.int (i : Int)]) [some (.tup xs), some (.int (i : Int))] := by
      rw [rngV_split 0 xs.length i (by omega), loop_skip]
      · rw [show xs.length - i = (xs.length - i - 1) + 1 by omega, rngV_succ]
        simp_arith [wrong_step hx (ho _ (List.mem_of_getElem? hx)), hb]
      · intro y hy
        obtain ⟨j, hj, rfl⟩ := rngV_mem hy
        obtain ⟨z, hz⟩ := g j hj
        refine ⟨[some (.tup xs), some (.int (j : Int))], by rw [Int.zero_add]; rfl, ?_⟩
        rw [wrong_step hz (ord_int z)]; rfl
    simp_arith [congrFun (v__law_wrong_0a_0.eq_1), congrFun (v__law_wrong_1a0a_0.eq_1), congrFun (v__law_wrong_1a_0.eq_1), congrFun (v__law_wrong_2.eq_1), congrFun (v__law_wrong_1.eq_1), congrFun (v__law_wrong.eq_1), congrFun (V__law_wrong.eq_1), ifn, ifp, rng1_len (n := xs.length) (by omega), hl, wrg]
theorem isrow_comp {xs : List PV} (ho : ∀ y ∈ xs, Ord y) (hl : xs.length ≤ 100) : vCLoop (tgVV (.one 1)) vYes (vCall V_is_integer [] (vBind [0, 1, 2] [.non, .non] (vCons (vVar 1) (vNil)) vNil)) [1] xs [] [some (.tup xs), none] = .ok ((xs.map fun y => isInt y none none).map PV.bl) [some (.tup xs), none] := by
  rw [cloop_map (fun y => .bl (isInt y none none)) xs (fun y hy => ⟨[some (.tup xs), some y], rfl, by
    have e : V_is_integer [y, .non, .non] = _ := is_integer_eq (ho y hy) none none
    simp_arith [e], rfl⟩) (by omega), List.map_map]
  rfl
theorem ints_all {l : List Int} : ((iv l).map fun y => isInt y none none).all id = true := by
  rw [List.all_map, List.all_map]
  exact List.all_eq_true.mpr fun z _ => rfl
theorem is_row_kind {x : PV} {f : Option PV} (k : Kind x f) : V_is_row [x] = .ok (.bl f.isNone) [] := by
  cases k with
  | @row l r =>
    have h1 := r.pos
    have h2 := r.len
    have c := isrow_comp (xs := iv l) (fun y hy => by obtain ⟨z, _, rfl⟩ := List.mem_map.mp hy; exact ord_int z) (by simpa using (by omega : l.length ≤ 100))
    simp_arith [congrFun (v_is_row_0a_0.eq_1), congrFun (v_is_row_1.eq_1), congrFun (v_is_row.eq_1), congrFun (V_is_row.eq_1), ifn, ifp, c, allV_bls, ints_all, iv_last r.last, Option.isNone_none]
  | @last l z h1 h2 h3 h4 =>
    have c := isrow_comp (xs := iv l) (fun y hy => by obtain ⟨z, _, rfl⟩ := List.mem_map.mp hy; exact ord_int z) (by simpa using (by omega : l.length ≤ 100))
    simp_arith [congrFun (v_is_row_0a_0.eq_1), congrFun (v_is_row_1.eq_1), congrFun (v_is_row.eq_1), congrFun (V_is_row.eq_1), ifn, ifp, c, allV_bls, ints_all, iv_last h3, h4, Option.isNone_some]
  | form ho h =>
    by_cases ht : ∃ ys, x = .tup ys
    · obtain ⟨ys, rfl⟩ := ht
      rcases h ys rfl with e | e
      · simp_arith [congrFun (v_is_row_0a_0.eq_1), congrFun (v_is_row_1.eq_1), congrFun (v_is_row.eq_1), congrFun (V_is_row.eq_1), ifn, ifp, e, Option.isNone_some]
      · simp_arith [congrFun (v_is_row_0a_0.eq_1), congrFun (v_is_row_1.eq_1), congrFun (v_is_row.eq_1), congrFun (V_is_row.eq_1), ifn, ifp, Option.isNone_some]
    · simp_arith [congrFun (v_is_row_0a_0.eq_1), congrFun (v_is_row_1.eq_1), congrFun (v_is_row.eq_1), congrFun (V_is_row.eq_1), isi_no_tuple ho fun ys e => ht ⟨ys, e⟩, Option.isNone_some]
  | @item xs i x h1 hl ho g hx hb =>
    have c := isrow_comp (xs := xs) ho (by omega)
    have a : ((xs.map fun y => isInt y none none).all id) = false := by
      rw [List.all_map, List.all_eq_false]
      exact ⟨x, List.mem_of_getElem? hx, by simp [hb]⟩
    simp_arith [congrFun (v_is_row_0a_0.eq_1), congrFun (v_is_row_1.eq_1), congrFun (v_is_row.eq_1), congrFun (V_is_row.eq_1), ifn, ifp, c, allV_bls, a, Option.isNone_some]
theorem size_ok {l : List Int} (r : Row l) : V_size_of [.tup (iv l)] = .ok (.int ((l.length : Int) - 1)) [] := by
  simp_arith [congrFun (v_size_of_1.eq_1), congrFun (v_size_of.eq_1), congrFun (V_size_of.eq_1), check_row_ok r]
theorem height_ok {a : Int} {l : List Int} (r : Row (a :: l)) : V_height_of [.tup (iv (a :: l))] = .ok (.int a) [] := by
  have e := check_row_ok r
  simp only [List.map_cons] at e
  simp_arith [congrFun (v_height_of_1.eq_1), congrFun (v_height_of.eq_1), congrFun (V_height_of.eq_1), e]
theorem size_bad {x e : PV} (h : V_check_row [x] = .xc e []) : V_size_of [x] = .xc e [] := by simp_arith [congrFun (v_size_of_1.eq_1), congrFun (v_size_of.eq_1), congrFun (V_size_of.eq_1), h]
theorem height_bad {x e : PV} (h : V_check_row [x] = .xc e []) : V_height_of [x] = .xc e [] := by simp_arith [congrFun (v_height_of_1.eq_1), congrFun (v_height_of.eq_1), congrFun (V_height_of.eq_1), h]

end Dn
end
section
set_option maxHeartbeats 2000000
namespace Dn
open PySem PySem.Spec PyProof.Rows Mn Vn
open L2 (atI ixN)
local macro_rules | `(tactic| walk_at "ve") => `(tactic| first | done | try simp only [e_vSeq, e_vIf, e_vAsg, e_vgN, e_vAsgO, e_isObj_lst, e_isObj_dct, e_vRet, e_vDrop, e_vNext, e_vBrk, e_vCnt, e_vTst, e_vOp, e_vOpL, e_vCon, e_vUn, e_vAndT, e_vOrT, e_vNotT, e_vAndV_t, e_vOrV_t, e_vNotE_t, e_andK_bl, e_orK_bl, e_notK_bl, e_vIfE, e_vChain_t, e_chK_bl, e_vNil, e_vCons, e_vConsL, e_vConsO, e_vFn, e_vLst, e_vTup, e_vDct0, e_vCall, e_vBind, e_pick_nil, e_vFor, e_vIt, e_vSeqI, e_vSl, e_vSlL, e_voNo, e_voSome, e_intO, e_vSub, e_vSubI, e_vSubB, e_vLt, e_vLe, e_vGt, e_vGe, e_vAnd, e_vAddI, e_vNeg, e_vMin2, e_vMax2, e_itemsV_tup, e_itemsV_lst, e_itemsV_rol, e_lenV_tup, e_lenV_lst, e_lenV_rol, e_vPar_t, e_parK_2, e_vPar3_t, e_par3K_3, e_vRaise_t, e_raiK_1, e_vgT_t, e_vgL_t, e_vgsCons_t, e_vgsNil_t, e_setL, e_vAppend_t, e_appK_1, e_app2K_1, e_vPop_t, e_popK_1, e_pop2K_1, e_vReverse_t, e_revK_1, e_vSetSub_t, e_ssK_1, e_ss2K_1, e_ss3K_1, e_vAug_t, e_augK_1, e_vAugS_t, e_asK_1, e_as2K_1, e_as3K_1, e_as4K_1, e_as5K_1, e_vTry_t, e_tryK_nx, e_tryK_rt, e_suf_nx, e_suf_rt, e_vXf, e_vYes, e_vComp, e_vBm, e_refItems_lst, e_vVar_t, e_varK, e_ownL, e_ownK, e_pick0, e_pick1, e_pick2, e_pick3, e_pick4, e_startV, e_vAsgT, finV_rt0, finV_nx0, finV_xc0, st_ok, st_xc, seq_nx, seq_rt, seq_br, seq_ct, seq_xc, oS_some, tst_bl, opt_some, bind_ok, bind_xc, f1_eq, f2I_eq, toE_ok, toE_xc, setM_nil, setM_cons, vI_int, vAdd_int, ix_lst, ix_tup, ix_rol, List.getElem?_cons_zero, List.getElem?_cons_succ, List.set_cons_zero, List.set_cons_succ, List.length_cons, List.length_nil, List.cons_append, List.nil_append, List.append_nil, Option.bind_some, decide_eq_true_eq, Bool.not_eq_true', decide_eq_false_iff_not, if_true, List.map_cons, List.map_nil, Nat.sub_self, List.replicate_succ, List.replicate_zero, Nat.reduceAdd, Nat.reduceLeDiff, lt_sz0, lt_sz1, lt_sz2, lt_sz3, lt_sz4, lt_sz5, if_false, Bool.false_eq_true, Bool.true_eq_false, and_self, Bool.not_true, Bool.not_false])
local macro_rules | `(tactic| simp_arith [$ls,*]) => `(tactic| simp (disch := first | omega | decide | (simp only [List.length_map, List.length_append, List.length_cons, List.length_nil, List.length_take, List.length_drop, List.length_replicate, List.length_reverse, List.length_dropLast, List.length_tail]; omega)) only [e_vSeq, e_vIf, e_vAsg, e_vgN, e_vAsgO, e_isObj_lst, e_isObj_dct, e_vRet, e_vDrop, e_vNext, e_vBrk, e_vCnt, e_vTst, e_vOp, e_vOpL, e_vCon, e_vUn, e_vAndT, e_vOrT, e_vNotT, e_vAndV_t, e_vOrV_t, e_vNotE_t, e_andK_bl, e_orK_bl, e_notK_bl, e_vIfE, e_vChain_t, e_chK_bl, e_vNil, e_vCons, e_vConsL, e_vConsO, e_vFn, e_vLst, e_vTup, e_vDct0, e_vCall, e_vBind, e_pick_nil, e_vFor, e_vIt, e_vSeqI, e_vSl, e_vSlL, e_voNo, e_voSome, e_intO, e_vSub, e_vSubI, e_vSubB, e_vLt, e_vLe, e_vGt, e_vGe, e_vAnd, e_vAddI, e_vNeg, e_vMin2, e_vMax2, e_itemsV_tup, e_itemsV_lst, e_itemsV_rol, e_lenV_tup, e_lenV_lst, e_lenV_rol, e_vPar_t, e_parK_2, e_vPar3_t, e_par3K_3, e_vRaise_t, e_raiK_1, e_vgT_t, e_vgL_t, e_vgsCons_t, e_vgsNil_t, e_setL, e_vAppend_t, e_appK_1, e_app2K_1, e_vPop_t, e_popK_1, e_pop2K_1, e_vReverse_t, e_revK_1, e_vSetSub_t, e_ssK_1, e_ss2K_1, e_ss3K_1, e_vAug_t, e_augK_1, e_vAugS_t, e_asK_1, e_as2K_1, e_as3K_1, e_as4K_1, e_as5K_1, e_vTry_t, e_tryK_nx, e_tryK_rt, e_suf_nx, e_suf_rt, e_vXf, e_vYes, e_vComp, e_vBm, e_refItems_lst, e_vVar_t, e_varK, e_ownL, e_ownK, e_pick0, e_pick1, e_pick2, e_pick3, e_pick4, e_startV, e_vAsgT, finV_rt0, finV_nx0, finV_xc0, st_ok, st_xc, seq_nx, seq_rt, seq_br, seq_ct, seq_xc, oS_some, tst_bl, opt_some, bind_ok, bind_xc, f1_eq, f2I_eq, toE_ok, toE_xc, setM_nil, setM_cons, vI_int, vAdd_int, ix_lst, ix_tup, ix_rol, List.getElem?_cons_zero, List.getElem?_cons_succ, List.set_cons_zero, List.set_cons_succ, List.length_cons, List.length_nil, List.cons_append, List.nil_append, List.append_nil, Option.bind_some, decide_eq_true_eq, Bool.not_eq_true', decide_eq_false_iff_not, if_true, List.map_cons, List.map_nil, Nat.sub_self, List.replicate_succ, List.replicate_zero, Nat.reduceAdd, Nat.reduceLeDiff, lt_sz0, lt_sz1, lt_sz2, lt_sz3, lt_sz4, lt_sz5, if_false, Bool.false_eq_true, Bool.true_eq_false, and_self, Bool.not_true, Bool.not_false, e_vKill, e_vKillC, e_kilK_nx, e_kilK_rt, e_kilK_br, e_kilK_ct, e_kilK_xc, e_kilC_ct, e_wipeV_nil, e_wipeV_cons, e_backV_nil, e_backV_cons, e_loop_nil, e_loop_cons, e_loK, e_loK_nx, e_loK_ct, e_loK_br, e_loK_rt, e_loK_xc, e_vLam, e_runV, e_fin1_rt, e_fin1_nx, e_fin1_xc, e_fin1K, e_fin1X, e_vEq_int, e_vNe_int, e_vEq_bl, e_vNe_bl, e_vEq_str, e_vNe_str, e_vIs_non, e_vIs_int, e_vIs_tup, e_vIs_lst, e_vIs_bl, e_vIsNot_non, e_vIsNot_int, e_vIsNot_tup, e_vIsNot_lst, ti_int, ti_bool, ti_str, ti_tuple, tb_int, tb_bool, tb_tuple, tt_int, tt_tuple, tt_str, tl_tuple, tl_int, ts_tuple, ts_int, ts_str, tn_tuple, tn_int, tn_str, td_tuple, td_int, atI_zero, atI_one, atI_two, sl_tup, sl_lst, cut_1, cut_all, cut_less1, tuple_lst, tuple_tup, list_lst, list_tup, e_enum_tup, e_enum_lst, e_enumI_nil, e_enumI_cons, vAdd_lst, vAdd_tup, atI_nat, revV_tup, revV_lst, List.length_map, List.length_append, List.length_reverse, List.length_tail, List.length_dropLast, Option.map_some, Option.map_none, Option.bind_none, Option.join_none, Option.join_some, Option.getD_some, List.getLast?_cons_cons, List.getLast?_singleton, List.getLast?_concat, List.dropLast_concat, Nat.reduceSub, Nat.reduceLT, Nat.reduceEqDiff, Int.reduceNeg, Int.reduceToNat, Bool.and_true, Bool.true_and, Bool.and_false, Bool.false_and, Bool.or_true, Bool.true_or, Bool.or_false, Bool.false_or, beq_self_eq_true, bne_self_eq_false, decide_true, decide_false, not_true_eq_false, not_false_eq_true, eq_self, ne_eq, e_vEqN_nil, e_vEqN_cons, vPow_l, vMul_sm, vFdiv_l, vMod_pos, rng1_l, rng2_l, Int.toNat_natCast, Int.reducePow, Int.reduceAdd, Int.reduceSub, Int.reduceMul, Int.add_zero, Int.zero_add, Int.sub_zero, $ls,*])
local macro_rules | `(tactic| simp_arith! [$ls,*]) => `(tactic| simp only [e_vSeq, e_vIf, e_vAsg, e_vgN, e_vAsgO, e_isObj_lst, e_isObj_dct, e_vRet, e_vDrop, e_vNext, e_vBrk, e_vCnt, e_vTst, e_vOp, e_vOpL, e_vCon, e_vUn, e_vAndT, e_vOrT, e_vNotT, e_vAndV_t, e_vOrV_t, e_vNotE_t, e_andK_bl, e_orK_bl, e_notK_bl, e_vIfE, e_vChain_t, e_chK_bl, e_vNil, e_vCons, e_vConsL, e_vConsO, e_vFn, e_vLst, e_vTup, e_vDct0, e_vCall, e_vBind, e_pick_nil, e_vFor, e_vIt, e_vSeqI, e_vSl, e_vSlL, e_voNo, e_voSome, e_intO, e_vSub, e_vSubI, e_vSubB, e_vLt, e_vLe, e_vGt, e_vGe, e_vAnd, e_vAddI, e_vNeg, e_vMin2, e_vMax2, e_itemsV_tup, e_itemsV_lst, e_itemsV_rol, e_lenV_tup, e_lenV_lst, e_lenV_rol, e_vPar_t, e_parK_2, e_vPar3_t, e_par3K_3, e_vRaise_t, e_raiK_1, e_vgT_t, e_vgL_t, e_vgsCons_t, e_vgsNil_t, e_setL, e_vAppend_t, e_appK_1, e_app2K_1, e_vPop_t, e_popK_1, e_pop2K_1, e_vReverse_t, e_revK_1, e_vSetSub_t, e_ssK_1, e_ss2K_1, e_ss3K_1, e_vAug_t, e_augK_1, e_vAugS_t, e_asK_1, e_as2K_1, e_as3K_1, e_as4K_1, e_as5K_1, e_vTry_t, e_tryK_nx, e_tryK_rt, e_suf_nx, e_suf_rt, e_vXf, e_vYes, e_vComp, e_vBm, e_refItems_lst, e_vVar_t, e_varK, e_ownL, e_ownK, e_pick0, e_pick1, e_pick2, e_pick3, e_pick4, e_startV, e_vAsgT, finV_rt0, finV_nx0, finV_xc0, st_ok, st_xc, seq_nx, seq_rt, seq_br, seq_ct, seq_xc, oS_some, tst_bl, opt_some, bind_ok, bind_xc, f1_eq, f2I_eq, toE_ok, toE_xc, setM_nil, setM_cons, vI_int, vAdd_int, ix_lst, ix_tup, ix_rol, List.getElem?_cons_zero, List.getElem?_cons_succ, List.set_cons_zero, List.set_cons_succ, List.length_cons, List.length_nil, List.cons_append, List.nil_append, List.append_nil, Option.bind_some, decide_eq_true_eq, Bool.not_eq_true', decide_eq_false_iff_not, if_true, List.map_cons, List.map_nil, Nat.sub_self, List.replicate_succ, List.replicate_zero, Nat.reduceAdd, Nat.reduceLeDiff, lt_sz0, lt_sz1, lt_sz2, lt_sz3, lt_sz4, lt_sz5, if_false, Bool.false_eq_true, Bool.true_eq_false, and_self, Bool.not_true, Bool.not_false, e_vKill, e_vKillC, e_kilK_nx, e_kilK_rt, e_kilK_br, e_kilK_ct, e_kilK_xc, e_kilC_ct, e_wipeV_nil, e_wipeV_cons, e_backV_nil, e_backV_cons, e_loop_nil, e_loop_cons, e_loK, e_loK_nx, e_loK_ct, e_loK_br, e_loK_rt, e_loK_xc, e_vLam, e_runV, e_fin1_rt, e_fin1_nx, e_fin1_xc, e_fin1K, e_fin1X, e_vEq_int, e_vNe_int, e_vEq_bl, e_vNe_bl, e_vEq_str, e_vNe_str, e_vIs_non, e_vIs_int, e_vIs_tup, e_vIs_lst, e_vIs_bl, e_vIsNot_non, e_vIsNot_int, e_vIsNot_tup, e_vIsNot_lst, ti_int, ti_bool, ti_str, ti_tuple, tb_int, tb_bool, tb_tuple, tt_int, tt_tuple, tt_str, tl_tuple, tl_int, ts_tuple, ts_int, ts_str, tn_tuple, tn_int, tn_str, td_tuple, td_int, atI_zero, atI_one, atI_two, sl_tup, sl_lst, cut_1, cut_all, cut_less1, tuple_lst, tuple_tup, list_lst, list_tup, e_enum_tup, e_enum_lst, e_enumI_nil, e_enumI_cons, vAdd_lst, vAdd_tup, atI_nat, revV_tup, revV_lst, List.length_map, List.length_append, List.length_reverse, List.length_tail, List.length_dropLast, Option.map_some, Option.map_none, Option.bind_none, Option.join_none, Option.join_some, Option.getD_some, List.getLast?_cons_cons, List.getLast?_singleton, List.getLast?_concat, List.dropLast_concat, Nat.reduceSub, Nat.reduceLT, Nat.reduceEqDiff, Int.reduceNeg, Int.reduceToNat, Bool.and_true, Bool.true_and, Bool.and_false, Bool.false_and, Bool.or_true, Bool.true_or, Bool.or_false, Bool.false_or, beq_self_eq_true, bne_self_eq_false, decide_true, decide_false, not_true_eq_false, not_false_eq_true, eq_self, ne_eq, e_vEqN_nil, e_vEqN_cons, Int.toNat_natCast, Int.reducePow, Int.reduceAdd, Int.reduceSub, Int.reduceMul, Int.add_zero, Int.zero_add, Int.sub_zero, $ls,*])
-- imports: P_told P_same P_eq
section
variable {τ : Tb} {x : PV} {s s' : VS}
theorem lam_val : lamK (V__law_told τ) (.ok x s') s = .ok (.lst [x]) s := e_lamK_ok fun lam => told_ok τ lam x
theorem lam_place (H : TOk τ) : lamK (V__law_told τ) (.xc (.exc "InvalidPlace" ["value"] [x]) s') s = .ok (.tup [.str "place", x]) s := e_lamK_xc fun lam => told_InvalidPlace H lam x
theorem lam_dist (H : TOk τ) : lamK (V__law_told τ) (.xc (.exc "InvalidDistance" ["value"] [x]) s') s = .ok (.tup [.str "distance", x]) s := e_lamK_xc fun lam => told_InvalidDistance H lam x
theorem lam_bag (H : TOk τ) : lamK (V__law_told τ) (.xc (.exc "InvalidBag" ["position"] [x]) s') s = .ok (.tup [.str "bag", x]) s := e_lamK_xc fun lam => told_InvalidBag H lam x
theorem lam_row (H : TOk τ) : lamK (V__law_told τ) (.xc (.exc "InvalidRow" ["position"] [x]) s') s = .ok (.tup [.str "row", x]) s := e_lamK_xc fun lam => told_InvalidRow H lam x
theorem lam_number (H : TOk τ) : lamK (V__law_told τ) (.xc (.exc "InvalidNumber" ["value"] [x]) s') s = .ok (.tup [.str "number", x]) s := e_lamK_xc fun lam => told_InvalidNumber H lam x
theorem lam_stone (H : TOk τ) : lamK (V__law_told τ) (.xc (.exc "NoStone" ["value"] [x]) s') s = .ok (.tup [.str "stone", x]) s := e_lamK_xc fun lam => told_NoStone H lam x
theorem lam_many (H : TOk τ) : lamK (V__law_told τ) (.xc (.exc "TooManyStones" ["limit"] [x]) s') s = .ok (.tup [.str "many", x]) s := e_lamK_xc fun lam => told_TooManyStones H lam x
theorem lam_bounds (H : TOk τ) : lamK (V__law_told τ) (.xc (.exc "OutOfBounds" ["value"] [x]) s') s = .ok (.tup [.str "bounds", x]) s := e_lamK_xc fun lam => told_OutOfBounds H lam x
end
theorem shs (n : Nat) {s : Str} (h : (PyData.str s).showable = true := by decide +kernel) (h2 : (PyData.shown (.str s)).length ≤ 40 := by decide +kernel) : ShD n (.str s) 40 := shd_str n h h2
theorem shd_one {n B : Nat} {x : PV} (h : ShD n x B) : ShD (n + 1) (.lst [x]) (B + 4) := (shd_lst 1 (fun y hy => by rw [List.mem_singleton.mp hy]; exact h) (by simp)).le (by omega)
theorem shd_pair {n B C : Nat} {x y : PV} (h : ShD n x B) (h2 : ShD n y C) : ShD (n + 1) (.tup [x, y]) (2 * (max B C + 2) + 3) := shd_tup 2 (fun z hz => by
  simp only [List.mem_cons, List.not_mem_nil, or_false] at hz
  rcases hz with rfl | rfl
  · exact h.le (Nat.le_max_left _ _)
  · exact h2.le (Nat.le_max_right _ _)) (by simp)

end Dn
end
section
set_option maxHeartbeats 2000000
namespace Dn
open PySem PySem.Spec PyProof.Rows Mn Vn
open L2 (atI ixN)
local macro_rules | `(tactic| walk_at "ve") => `(tactic| first | done | try simp only [e_vSeq, e_vIf, e_vAsg, e_vgN, e_vAsgO, e_isObj_lst, e_isObj_dct, e_vRet, e_vDrop, e_vNext, e_vBrk, e_vCnt, e_vTst, e_vOp, e_vOpL, e_vCon, e_vUn, e_vAndT, e_vOrT, e_vNotT, e_vAndV_t, e_vOrV_t, e_vNotE_t, e_andK_bl, e_orK_bl, e_notK_bl, e_vIfE, e_vChain_t, e_chK_bl, e_vNil, e_vCons, e_vConsL, e_vConsO, e_vFn, e_vLst, e_vTup, e_vDct0, e_vCall, e_vBind, e_pick_nil, e_vFor, e_vIt, e_vSeqI, e_vSl, e_vSlL, e_voNo, e_voSome, e_intO, e_vSub, e_vLt, e_vLe, e_vGt, e_vGe, e_vAnd, e_vAddI, e_vNeg, e_vMin2, e_vMax2, e_itemsV_tup, e_itemsV_lst, e_itemsV_rol, e_lenV_tup, e_lenV_lst, e_lenV_rol, e_vPar_t, e_parK_2, e_vPar3_t, e_par3K_3, e_vRaise_t, e_raiK_1, e_vgT_t, e_vgL_t, e_vgsCons_t, e_vgsNil_t, e_setL, e_vAppend_t, e_appK_1, e_app2K_1, e_vPop_t, e_popK_1, e_pop2K_1, e_vReverse_t, e_revK_1, e_vSetSub_t, e_ssK_1, e_ss2K_1, e_ss3K_1, e_vAug_t, e_augK_1, e_vAugS_t, e_asK_1, e_as2K_1, e_as3K_1, e_as4K_1, e_as5K_1, e_vTry_t, e_tryK_nx, e_tryK_rt, e_suf_nx, e_suf_rt, e_vXf, e_vYes, e_vComp, e_vBm, e_refItems_lst, e_vVar_t, e_varK, e_ownL, e_ownK, e_pick0, e_pick1, e_pick2, e_pick3, e_pick4, e_startV, e_vAsgT, finV_rt0, finV_nx0, finV_xc0, st_ok, st_xc, seq_nx, seq_rt, seq_br, seq_ct, seq_xc, oS_some, tst_bl, opt_some, bind_ok, bind_xc, f1_eq, f2I_eq, toE_ok, toE_xc, setM_nil, setM_cons, vI_int, vAdd_int, ix_lst, ix_tup, ix_rol, List.getElem?_cons_zero, List.getElem?_cons_succ, List.set_cons_zero, List.set_cons_succ, List.length_cons, List.length_nil, List.cons_append, List.nil_append, List.append_nil, Option.bind_some, decide_eq_true_eq, Bool.not_eq_true', decide_eq_false_iff_not, if_true, List.map_cons, List.map_nil, Nat.sub_self, List.replicate_succ, List.replicate_zero, Nat.reduceAdd, Nat.reduceLeDiff, lt_sz0, lt_sz1, lt_sz2, lt_sz3, lt_sz4, lt_sz5, if_false, Bool.false_eq_true, Bool.true_eq_false, and_self, Bool.not_true, Bool.not_false])
local macro_rules | `(tactic| walk_at "fin") => `(tactic| first | done | try simp only [finV, ioAll, ioOut, List.all_cons, List.all_nil, List.map_cons, List.map_nil, List.getElem?_cons_zero, List.getElem?_cons_succ, Option.join_some, Option.isSome_some, Option.getD_some, Bool.and_self, if_true])
section
variable {ns : List Int} {k b : Int} {o3 o4 o5 : Option PV}
theorem idx_ok (h : (0 : Int) < ns.length) (k : Int) : ∃ c, atI (ns.map PV.int) (k % ns.length) = some (.int c) ∧ c ∈ ns :=
  atI_ints (Int.emod_nonneg _ (by omega)) (Int.emod_lt_of_pos _ h)
theorem cell_5 {s : VS} (hb : s[3]? = some (some (.int b))) : ∃ v : Int, 0 ≤ v ∧ v < 306783379 ∧ v__law_cell_5 s = .rt (.int v) s := by
  unfold v__law_cell_5
  have b0 : 0 ≤ b % 2147483647 := Int.emod_nonneg b (by decide)
  have b1 : b % 2147483647 < 2147483647 := Int.emod_lt_of_pos b (by decide)
  have e := vPow_sm (i := b % 2147483647) 5 (by omega) (by decide)
  walk_at "ve"
  simp only [hb]
  walk_at "ve"
  rw [vMod_pos (by decide)]
  walk_at "ve"
  rw [show (5 : Int) = ((5 : Nat) : Int) from rfl, e]
  walk_at "ve"
  rw [vMod_pos (by decide)]
  walk_at "ve"
  rw [vFdiv_sm (by decide) (by decide)]
  walk_at "ve"
  generalize (b % 2147483647) ^ 5 = y
  have y0 : 0 ≤ y % 2147483647 := Int.emod_nonneg y (by decide)
  have y1 : y % 2147483647 < 2147483647 := Int.emod_lt_of_pos y (by decide)
  exact ⟨_, by omega, by omega, rfl⟩
theorem cell_4 (h0 : 0 ≤ k) (hk : k < 1000000) (hl : ns.length ≤ 63) (hb : -(2 ^ 100) < b ∧ b < 2 ^ 100) : ∃ (v : Int) (s : VS), 0 ≤ v ∧ v < 306783379 ∧ v__law_cell_4 [some (.rol (ns.map .int)), some (.lst [.int (k + 1)]), some (.int (k + 1)), some (.int b), o4, o5] = .rt (.int v) s ∧ s[1]? = some (some (.lst [.int (k + 1)])) := by
  unfold v__law_cell_4 v__law_cell_4a_0
  walk_at "ve"
  simp only [List.length_map]
  split
  · rename_i h
    obtain ⟨c, hc, _⟩ := idx_ok h (k + 1)
    have c0 := Int.emod_nonneg c (show (2147483629 : Int) ≠ 0 by decide)
    have c1 := Int.emod_lt_of_pos c (show (0 : Int) < 2147483629 by decide)
    have d0 : (k + 1) / (ns.length : Int) ≤ k + 1 := Int.ediv_le_self _ (by omega)
    have d1 : 0 ≤ (k + 1) / (ns.length : Int) := Int.ediv_nonneg (by omega) (by omega)
    rw [vMod_pos h]
    walk_at "ve"
    rw [hc]
    walk_at "ve"
    rw [vMod_pos (by decide)]
    walk_at "ve"
    simp only [List.length_map]
    rw [vFdiv_sm h (by omega)]
    walk_at "ve"
    rw [vMul_int (small_ok (by omega) (by omega))]
    walk_at "ve"
    obtain ⟨v, v0, v1, e⟩ := cell_5 (s := [some (.rol (ns.map .int)), some (.lst [.int (k + 1)]), some (.int (k + 1)), some (.int (b + c % 2147483629 * (1 + (k + 1) / (ns.length : Int)))), o4, o5]) rfl
    exact ⟨v, _, v0, v1, e, rfl⟩
  · obtain ⟨v, v0, v1, e⟩ := cell_5 (s := [some (.rol (ns.map .int)), some (.lst [.int (k + 1)]), some (.int (k + 1)), some (.int b), o4, o5]) rfl
    exact ⟨v, _, v0, v1, e, rfl⟩
theorem cell_3 (h0 : 0 ≤ k) (hk : k < 1000000) (hl : ns.length ≤ 63) (hb : -(2 ^ 100) < b ∧ b < 2 ^ 100) : ∃ (v : Int) (s : VS), 0 ≤ v ∧ v < 306783379 ∧ v__law_cell_3 [some (.rol (ns.map .int)), some (.lst [.int (k + 1)]), some (.int (k + 1)), some (.int b), o4, o5] = .rt (.int v) s ∧ s[1]? = some (some (.lst [.int (k + 1)])) := by
  unfold v__law_cell_3
  walk_at "ve"
  simp only [List.length_map]
  by_cases h : (0 : Int) < ns.length
  · obtain ⟨c, hc, _⟩ := idx_ok h (k + 1)
    have d0 : (k + 1) / (ns.length : Int) ≤ k + 1 := Int.ediv_le_self _ (by omega)
    have d1 : 0 ≤ (k + 1) / (ns.length : Int) := Int.ediv_nonneg (by omega) (by omega)
    rw [if_pos h, vMod_pos h]
    walk_at "ve"
    rw [hc]
    walk_at "ve"
    rw [show (18 : Int) = ((18 : Nat) : Int) from rfl, vPow_sm 18 (by decide) (by decide)]
    walk_at "ve"
    split
    · simp only [List.length_map]
      rw [vFdiv_sm h (by omega)]
      walk_at "ve"
      split
      · unfold v__law_cell_3a_0
        walk_at "ve"
        simp only [List.length_map]
        rw [vMod_pos h]
        walk_at "ve"
        rw [hc]
        walk_at "ve"
        unfold v__law_cell_3a_1
        walk_at "ve"
        simp only [List.length_map]
        rw [vFdiv_sm h (by omega)]
        walk_at "ve"
        rw [rng1_eq d1 (by omega)]
        walk_at "ve"
        obtain ⟨s2, e2, a, o, rfl⟩ := loop_all (g := vgN 5) (b := v__law_cell_3a1a_0) (xs := rngV 0 ((k + 1) / (ns.length : Int)).toNat) (fun _ s => ∃ (a : Int) (o : Option PV), s = [some (.rol (ns.map .int)), some (.lst [.int (k + 1)]), some (.int (k + 1)), some (.int b), some (.int a), o]) (s := [some (.rol (ns.map .int)), some (.lst [.int (k + 1)]), some (.int (k + 1)), some (.int b), some (.int c), o5]) ⟨_, _, rfl⟩ (by
          rintro i x s hx ⟨a, o, rfl⟩
          refine ⟨_, _, rfl, .inl ?_, a / 306783379, some x, rfl⟩
          unfold v__law_cell_3a1a_0
          walk_at "ve"
          rw [vFdiv_sm (by decide) (by decide)]
          walk_at "ve")
        rw [e2]
        walk_at "ve"
        unfold v__law_cell_3a_2 v__law_cell_3a2a_0
        walk_at "ve"
        split
        · rw [vMod_pos (by decide)]
          walk_at "ve"
          exact ⟨_, _, Int.emod_nonneg a (by decide), Int.emod_lt_of_pos a (by decide), rfl, rfl⟩
        · exact cell_4 h0 hk hl hb
      · exact cell_4 h0 hk hl hb
    · exact cell_4 h0 hk hl hb
  · rw [if_neg h]
    walk_at "ve"
    skip
    exact cell_4 h0 hk hl hb
theorem cell_ex (h0 : 0 ≤ k) (hk : k < 1000000) (hl : ns.length ≤ 63) : ∃ v : Int, (0 ≤ v ∧ v < 306783379) ∧ V__law_cell [.rol (ns.map .int), .lst [.int k]] = .ok (.int v) [.lst [.int (k + 1)]] := by
  unfold V__law_cell runV
  walk_at "ve"
  unfold v__law_cell
  walk_at "ve"
  rw [show atI [PV.int k] 0 = some (.int k) from rfl]
  walk_at "ve"
  rw [show ixN (0 + 1) 0 = some 0 from rfl]
  walk_at "ve"
  unfold v__law_cell_1
  walk_at "ve"
  rw [show atI [PV.int (k + 1)] 0 = some (.int (k + 1)) from rfl]
  walk_at "ve"
  unfold v__law_cell_2
  walk_at "ve"
  rw [vMul_int (small_ok (by omega) (by omega))]
  walk_at "ve"
  have e1 : 31 * (k + 1) * (k + 1) ≤ 31 * 1000000 * 1000000 := Int.mul_le_mul (by omega) (by omega) (by omega) (by decide)
  have e2 : 0 ≤ 31 * (k + 1) * (k + 1) := Int.mul_nonneg (by omega) (by omega)
  rw [vMul_int (small_ok (by omega) (by omega))]
  walk_at "ve"
  rw [vMul_int (small_ok (by omega) (by omega))]
  walk_at "ve"
  obtain ⟨v, s, v0, v1, e, e3⟩ := cell_3 (ns := ns) (o4 := none) (o5 := none) (b := 31 * (k + 1) * (k + 1) + 7919 * (k + 1)) h0 hk hl (by omega)
  refine ⟨v, ⟨v0, v1⟩, ?_⟩
  rw [e]
  simp only [finV, ioAll, ioOut, List.all_cons, List.all_nil, List.map_cons, List.map_nil, e3, Option.join_some, Option.isSome_some, Option.getD_some, Bool.and_self, if_true]
end
open Classical in
/-- the drawn number -/
noncomputable def cellv (ns : List Int) (k : Int) : Int := if h : 0 ≤ k ∧ k < 1000000 ∧ ns.length ≤ 63 then (cell_ex (ns := ns) h.1 h.2.1 h.2.2).choose else 0
theorem cell_eq {ns : List Int} {k : Int} (h0 : 0 ≤ k) (hk : k < 1000000) (hl : ns.length ≤ 63) : V__law_cell [.rol (ns.map .int), .lst [.int k]] = .ok (.int (cellv ns k)) [.lst [.int (k + 1)]] := by
  unfold cellv
  rw [dif_pos ⟨h0, hk, hl⟩]
  exact (cell_ex (ns := ns) h0 hk hl).choose_spec.2
theorem cell_nn (ns : List Int) (k : Int) : 0 ≤ cellv ns k := by
  unfold cellv
  split
  · rename_i h; exact (cell_ex (ns := ns) h.1 h.2.1 h.2.2).choose_spec.1.1
  · decide
theorem cell_lt (ns : List Int) (k : Int) : cellv ns k < 306783379 := by
  unfold cellv
  split
  · rename_i h; exact (cell_ex (ns := ns) h.1 h.2.1 h.2.2).choose_spec.1.2
  · decide
end Dn
end
section
set_option maxHeartbeats 2000000
namespace Dn
open PySem PySem.Spec PyProof.Rows Mn Vn
open L2 (atI ixN)
local macro_rules | `(tactic| walk_at "ve") => `(tactic| first | done | try simp only [e_vSeq, e_vIf, e_vAsg, e_vgN, e_vAsgO, e_isObj_lst, e_isObj_dct, e_vRet, e_vDrop, e_vNext, e_vBrk, e_vCnt, e_vTst, e_vOp, e_vOpL, e_vCon, e_vUn, e_vAndT, e_vOrT, e_vNotT, e_vAndV_t, e_vOrV_t, e_vNotE_t, e_andK_bl, e_orK_bl, e_notK_bl, e_vIfE, e_vChain_t, e_chK_bl, e_vNil, e_vCons, e_vConsL, e_vConsO, e_vFn, e_vLst, e_vTup, e_vDct0, e_vCall, e_vBind, e_pick_nil, e_vFor, e_vIt, e_vSeqI, e_vSl, e_vSlL, e_voNo, e_voSome, e_intO, e_vSub, e_vSubI, e_vSubB, e_vLt, e_vLe, e_vGt, e_vGe, e_vAnd, e_vAddI, e_vNeg, e_vMin2, e_vMax2, e_itemsV_tup, e_itemsV_lst, e_itemsV_rol, e_lenV_tup, e_lenV_lst, e_lenV_rol, e_vPar_t, e_parK_2, e_vPar3_t, e_par3K_3, e_vRaise_t, e_raiK_1, e_vgT_t, e_vgL_t, e_vgsCons_t, e_vgsNil_t, e_setL, e_vAppend_t, e_appK_1, e_app2K_1, e_vPop_t, e_popK_1, e_pop2K_1, e_vReverse_t, e_revK_1, e_vSetSub_t, e_ssK_1, e_ss2K_1, e_ss3K_1, e_vAug_t, e_augK_1, e_vAugS_t, e_asK_1, e_as2K_1, e_as3K_1, e_as4K_1, e_as5K_1, e_vTry_t, e_tryK_nx, e_tryK_rt, e_suf_nx, e_suf_rt, e_vXf, e_vYes, e_vComp, e_vBm, e_refItems_lst, e_vVar_t, e_varK, e_ownL, e_ownK, e_pick0, e_pick1, e_pick2, e_pick3, e_pick4, e_startV, e_vAsgT, finV_rt0, finV_nx0, finV_xc0, st_ok, st_xc, seq_nx, seq_rt, seq_br, seq_ct, seq_xc, oS_some, tst_bl, opt_some, bind_ok, bind_xc, f1_eq, f2I_eq, toE_ok, toE_xc, setM_nil, setM_cons, vI_int, vAdd_int, ix_lst, ix_tup, ix_rol, List.getElem?_cons_zero, List.getElem?_cons_succ, List.set_cons_zero, List.set_cons_succ, List.length_cons, List.length_nil, List.cons_append, List.nil_append, List.append_nil, Option.bind_some, decide_eq_true_eq, Bool.not_eq_true', decide_eq_false_iff_not, if_true, List.map_cons, List.map_nil, Nat.sub_self, List.replicate_succ, List.replicate_zero, Nat.reduceAdd, Nat.reduceLeDiff, lt_sz0, lt_sz1, lt_sz2, lt_sz3, lt_sz4, lt_sz5, if_false, Bool.false_eq_true, Bool.true_eq_false, and_self, Bool.not_true, Bool.not_false])
local macro_rules | `(tactic| simp_arith [$ls,*]) => `(tactic| simp (disch := first | omega | decide | (simp only [List.length_map, List.length_append, List.length_cons, List.length_nil, List.length_take, List.length_drop, List.length_replicate, List.length_reverse, List.length_dropLast, List.length_tail]; omega)) only [e_vSeq, e_vIf, e_vAsg, e_vgN, e_vAsgO, e_isObj_lst, e_isObj_dct, e_vRet, e_vDrop, e_vNext, e_vBrk, e_vCnt, e_vTst, e_vOp, e_vOpL, e_vCon, e_vUn, e_vAndT, e_vOrT, e_vNotT, e_vAndV_t, e_vOrV_t, e_vNotE_t, e_andK_bl, e_orK_bl, e_notK_bl, e_vIfE, e_vChain_t, e_chK_bl, e_vNil, e_vCons, e_vConsL, e_vConsO, e_vFn, e_vLst, e_vTup, e_vDct0, e_vCall, e_vBind, e_pick_nil, e_vFor, e_vIt, e_vSeqI, e_vSl, e_vSlL, e_voNo, e_voSome, e_intO, e_vSub, e_vSubI, e_vSubB, e_vLt, e_vLe, e_vGt, e_vGe, e_vAnd, e_vAddI, e_vNeg, e_vMin2, e_vMax2, e_itemsV_tup, e_itemsV_lst, e_itemsV_rol, e_lenV_tup, e_lenV_lst, e_lenV_rol, e_vPar_t, e_parK_2, e_vPar3_t, e_par3K_3, e_vRaise_t, e_raiK_1, e_vgT_t, e_vgL_t, e_vgsCons_t, e_vgsNil_t, e_setL, e_vAppend_t, e_appK_1, e_app2K_1, e_vPop_t, e_popK_1, e_pop2K_1, e_vReverse_t, e_revK_1, e_vSetSub_t, e_ssK_1, e_ss2K_1, e_ss3K_1, e_vAug_t, e_augK_1, e_vAugS_t, e_asK_1, e_as2K_1, e_as3K_1, e_as4K_1, e_as5K_1, e_vTry_t, e_tryK_nx, e_tryK_rt, e_suf_nx, e_suf_rt, e_vXf, e_vYes, e_vComp, e_vBm, e_refItems_lst, e_vVar_t, e_varK, e_ownL, e_ownK, e_pick0, e_pick1, e_pick2, e_pick3, e_pick4, e_startV, e_vAsgT, finV_rt0, finV_nx0, finV_xc0, st_ok, st_xc, seq_nx, seq_rt, seq_br, seq_ct, seq_xc, oS_some, tst_bl, opt_some, bind_ok, bind_xc, f1_eq, f2I_eq, toE_ok, toE_xc, setM_nil, setM_cons, vI_int, vAdd_int, ix_lst, ix_tup, ix_rol, List.getElem?_cons_zero, List.getElem?_cons_succ, List.set_cons_zero, List.set_cons_succ, List.length_cons, List.length_nil, List.cons_append, List.nil_append, List.append_nil, Option.bind_some, decide_eq_true_eq, Bool.not_eq_true', decide_eq_false_iff_not, if_true, List.map_cons, List.map_nil, Nat.sub_self, List.replicate_succ, List.replicate_zero, Nat.reduceAdd, Nat.reduceLeDiff, lt_sz0, lt_sz1, lt_sz2, lt_sz3, lt_sz4, lt_sz5, if_false, Bool.false_eq_true, Bool.true_eq_false, and_self, Bool.not_true, Bool.not_false, e_vKill, e_vKillC, e_kilK_nx, e_kilK_rt, e_kilK_br, e_kilK_ct, e_kilK_xc, e_kilC_ct, e_wipeV_nil, e_wipeV_cons, e_backV_nil, e_backV_cons, e_loop_nil, e_loop_cons, e_loK, e_loK_nx, e_loK_ct, e_loK_br, e_loK_rt, e_loK_xc, e_vLam, e_runV, e_fin1_rt, e_fin1_nx, e_fin1_xc, e_fin1K, e_fin1X, e_vEq_int, e_vNe_int, e_vEq_bl, e_vNe_bl, e_vEq_str, e_vNe_str, e_vIs_non, e_vIs_int, e_vIs_tup, e_vIs_lst, e_vIs_bl, e_vIsNot_non, e_vIsNot_int, e_vIsNot_tup, e_vIsNot_lst, ti_int, ti_bool, ti_str, ti_tuple, tb_int, tb_bool, tb_tuple, tt_int, tt_tuple, tt_str, tl_tuple, tl_int, ts_tuple, ts_int, ts_str, tn_tuple, tn_int, tn_str, td_tuple, td_int, atI_zero, atI_one, atI_two, sl_tup, sl_lst, cut_1, cut_all, cut_less1, tuple_lst, tuple_tup, list_lst, list_tup, e_enum_tup, e_enum_lst, e_enumI_nil, e_enumI_cons, vAdd_lst, vAdd_tup, atI_nat, revV_tup, revV_lst, List.length_map, List.length_append, List.length_reverse, List.length_tail, List.length_dropLast, Option.map_some, Option.map_none, Option.bind_none, Option.join_none, Option.join_some, Option.getD_some, List.getLast?_cons_cons, List.getLast?_singleton, List.getLast?_concat, List.dropLast_concat, Nat.reduceSub, Nat.reduceLT, Nat.reduceEqDiff, Int.reduceNeg, Int.reduceToNat, Bool.and_true, Bool.true_and, Bool.and_false, Bool.false_and, Bool.or_true, Bool.true_or, Bool.or_false, Bool.false_or, beq_self_eq_true, bne_self_eq_false, decide_true, decide_false, not_true_eq_false, not_false_eq_true, eq_self, ne_eq, e_vEqN_nil, e_vEqN_cons, vPow_l, vMul_sm, vFdiv_l, vMod_pos, rng1_l, rng2_l, Int.toNat_natCast, Int.reducePow, Int.reduceAdd, Int.reduceSub, Int.reduceMul, Int.add_zero, Int.zero_add, Int.sub_zero, $ls,*])
local macro_rules | `(tactic| simp_arith! [$ls,*]) => `(tactic| simp only [e_vSeq, e_vIf, e_vAsg, e_vgN, e_vAsgO, e_isObj_lst, e_isObj_dct, e_vRet, e_vDrop, e_vNext, e_vBrk, e_vCnt, e_vTst, e_vOp, e_vOpL, e_vCon, e_vUn, e_vAndT, e_vOrT, e_vNotT, e_vAndV_t, e_vOrV_t, e_vNotE_t, e_andK_bl, e_orK_bl, e_notK_bl, e_vIfE, e_vChain_t, e_chK_bl, e_vNil, e_vCons, e_vConsL, e_vConsO, e_vFn, e_vLst, e_vTup, e_vDct0, e_vCall, e_vBind, e_pick_nil, e_vFor, e_vIt, e_vSeqI, e_vSl, e_vSlL, e_voNo, e_voSome, e_intO, e_vSub, e_vSubI, e_vSubB, e_vLt, e_vLe, e_vGt, e_vGe, e_vAnd, e_vAddI, e_vNeg, e_vMin2, e_vMax2, e_itemsV_tup, e_itemsV_lst, e_itemsV_rol, e_lenV_tup, e_lenV_lst, e_lenV_rol, e_vPar_t, e_parK_2, e_vPar3_t, e_par3K_3, e_vRaise_t, e_raiK_1, e_vgT_t, e_vgL_t, e_vgsCons_t, e_vgsNil_t, e_setL, e_vAppend_t, e_appK_1, e_app2K_1, e_vPop_t, e_popK_1, e_pop2K_1, e_vReverse_t, e_revK_1, e_vSetSub_t, e_ssK_1, e_ss2K_1, e_ss3K_1, e_vAug_t, e_augK_1, e_vAugS_t, e_asK_1, e_as2K_1, e_as3K_1, e_as4K_1, e_as5K_1, e_vTry_t, e_tryK_nx, e_tryK_rt, e_suf_nx, e_suf_rt, e_vXf, e_vYes, e_vComp, e_vBm, e_refItems_lst, e_vVar_t, e_varK, e_ownL, e_ownK, e_pick0, e_pick1, e_pick2, e_pick3, e_pick4, e_startV, e_vAsgT, finV_rt0, finV_nx0, finV_xc0, st_ok, st_xc, seq_nx, seq_rt, seq_br, seq_ct, seq_xc, oS_some, tst_bl, opt_some, bind_ok, bind_xc, f1_eq, f2I_eq, toE_ok, toE_xc, setM_nil, setM_cons, vI_int, vAdd_int, ix_lst, ix_tup, ix_rol, List.getElem?_cons_zero, List.getElem?_cons_succ, List.set_cons_zero, List.set_cons_succ, List.length_cons, List.length_nil, List.cons_append, List.nil_append, List.append_nil, Option.bind_some, decide_eq_true_eq, Bool.not_eq_true', decide_eq_false_iff_not, if_true, List.map_cons, List.map_nil, Nat.sub_self, List.replicate_succ, List.replicate_zero, Nat.reduceAdd, Nat.reduceLeDiff, lt_sz0, lt_sz1, lt_sz2, lt_sz3, lt_sz4, lt_sz5, if_false, Bool.false_eq_true, Bool.true_eq_false, and_self, Bool.not_true, Bool.not_false, e_vKill, e_vKillC, e_kilK_nx, e_kilK_rt, e_kilK_br, e_kilK_ct, e_kilK_xc, e_kilC_ct, e_wipeV_nil, e_wipeV_cons, e_backV_nil, e_backV_cons, e_loop_nil, e_loop_cons, e_loK, e_loK_nx, e_loK_ct, e_loK_br, e_loK_rt, e_loK_xc, e_vLam, e_runV, e_fin1_rt, e_fin1_nx, e_fin1_xc, e_fin1K, e_fin1X, e_vEq_int, e_vNe_int, e_vEq_bl, e_vNe_bl, e_vEq_str, e_vNe_str, e_vIs_non, e_vIs_int, e_vIs_tup, e_vIs_lst, e_vIs_bl, e_vIsNot_non, e_vIsNot_int, e_vIsNot_tup, e_vIsNot_lst, ti_int, ti_bool, ti_str, ti_tuple, tb_int, tb_bool, tb_tuple, tt_int, tt_tuple, tt_str, tl_tuple, tl_int, ts_tuple, ts_int, ts_str, tn_tuple, tn_int, tn_str, td_tuple, td_int, atI_zero, atI_one, atI_two, sl_tup, sl_lst, cut_1, cut_all, cut_less1, tuple_lst, tuple_tup, list_lst, list_tup, e_enum_tup, e_enum_lst, e_enumI_nil, e_enumI_cons, vAdd_lst, vAdd_tup, atI_nat, revV_tup, revV_lst, List.length_map, List.length_append, List.length_reverse, List.length_tail, List.length_dropLast, Option.map_some, Option.map_none, Option.bind_none, Option.join_none, Option.join_some, Option.getD_some, List.getLast?_cons_cons, List.getLast?_singleton, List.getLast?_concat, List.dropLast_concat, Nat.reduceSub, Nat.reduceLT, Nat.reduceEqDiff, Int.reduceNeg, Int.reduceToNat, Bool.and_true, Bool.true_and, Bool.and_false, Bool.false_and, Bool.or_true, Bool.true_or, Bool.or_false, Bool.false_or, beq_self_eq_true, bne_self_eq_false, decide_true, decide_false, not_true_eq_false, not_false_eq_true, eq_self, ne_eq, e_vEqN_nil, e_vEqN_cons, Int.toNat_natCast, Int.reducePow, Int.reduceAdd, Int.reduceSub, Int.reduceMul, Int.add_zero, Int.zero_add, Int.sub_zero, $ls,*])
-- imports: P_kind2 P_lam P_cell D_law_any_ed57k D_law_bent_c259k D_law_right_fba0k D_law_ed0ek
section
variable {ns : List Int} {k n : Int}
theorem any08_loop (hl : ns.length ≤ 63) : ∀ (m : Nat) (lo k : Int) (fs : List Int), 0 ≤ k → k + m < 900000 → (∀ z ∈ fs, z.natAbs < 2 ^ 90) → fs.length + m < 1000 → ∃ zs : List Int, zs.length = fs.length + m ∧ (∀ z ∈ zs, z.natAbs < 2 ^ 90) ∧
    vLoop (vgN 4) v__law_any_1a_0 (rngV lo m) [some (.rol (iv ns)), some (.lst [.int k]), some (.int n), some (.lst (iv fs)), none, none] = .nx [some (.rol (iv ns)), some (.lst [.int (k + m)]), some (.int n), some (.lst (iv zs)), none, none]
  | 0, lo, k, fs, _, _, hf, _ => ⟨fs, rfl, hf, by rw [rngV_zero, e_loop_nil]; simp⟩
  | m + 1, lo, k, fs, h0, hk, hf, hfl => by
    have c0 := cell_nn ns k
    have c1 := cell_lt ns k
    have e := cell_eq (ns := ns) (k := k) h0 (by omega) hl
    generalize cellv ns k = d at c0 c1 e
    have m1 : d * d ≤ 306783379 * 306783379 := Int.mul_le_mul (by omega) (by omega) c0 (by decide)
    have m2 : 0 ≤ d * d := Int.mul_nonneg c0 c0
    have m3 : d * d * d ≤ 306783379 * 306783379 * 306783379 := Int.mul_le_mul m1 (by omega) c0 (by decide)
    have m4 : 0 ≤ d * d * d := Int.mul_nonneg m2 c0
    obtain ⟨x, hx, z, rfl, hz⟩ := pick_of (xs := [PV.int (d % 9 - 4), .int 0, .int (d * d * d - 100000000000000000000), .int (0 - d)]) (fun x => ∃ z : Int, x = .int z ∧ z.natAbs < 2 ^ 90) (Int.emod_nonneg (d / 9) (show (4 : Int) ≠ 0 by decide)) (Int.emod_lt_of_pos (d / 9) (show (0 : Int) < 4 by decide)) (by
      intro x hx
      simp only [List.mem_cons, List.not_mem_nil, or_false] at hx
      rcases hx with rfl | rfl | rfl | rfl <;> exact ⟨_, rfl, by omega⟩)
    obtain ⟨zs, h1, h2, h3⟩ := any08_loop hl m (lo + 1) (k + 1) (fs ++ [z]) (by omega) (by omega) (fun w hw => by
      rcases List.mem_append.mp hw with hw | hw
      · exact hf w hw
      · rw [List.mem_singleton.mp hw]; exact hz) (by simp; omega)
    refine ⟨zs, by simp at h1; omega, h2, ?_⟩
    rw [show k + ((m + 1 : Nat) : Int) = k + 1 + (m : Int) by omega, ← h3]
    simp_arith [rngV_succ, congrFun (v__law_any_1a_1.eq_1), congrFun (v__law_any_1a_0.eq_1), e, hx, ifp, iv_snoc]
theorem any08 (h0 : 0 ≤ k) (hk : k < 800000) (hl : ns.length ≤ 63) : ∃ (l : List Int) (k' : Int), l.length ≤ 40 ∧ (∀ z ∈ l, z.natAbs < 2 ^ 90) ∧ k ≤ k' ∧ k' ≤ k + 41 ∧ V__law_any [.rol (iv ns), .lst [.int k]] = .ok (.tup (iv (l ++ [1]))) [.lst [.int k']] := by
  have c0 := cell_nn ns k
  have e := cell_eq (ns := ns) (k := k) h0 (by omega) hl
  generalize cellv ns k = d at c0 e
  obtain ⟨x, hx, z, rfl, z0, z1⟩ := pick_of (xs := [PV.int (d / 3 % 5), .int (d / 3 % 41), .int 40]) (fun x => ∃ z : Int, x = .int z ∧ 0 ≤ z ∧ z ≤ 40) (Int.emod_nonneg d (show (3 : Int) ≠ 0 by decide)) (Int.emod_lt_of_pos d (show (0 : Int) < 3 by decide)) (by
    intro x hx
    simp only [List.mem_cons, List.not_mem_nil, or_false] at hx
    rcases hx with rfl | rfl | rfl <;> exact ⟨_, rfl, by omega, by omega⟩)
  obtain ⟨zs, h1, h2, h3⟩ := any08_loop (ns := ns) (n := d) hl z.toNat 0 (k + 1) [] (by omega) (by omega) (fun z hz => by cases hz) (by simp; omega)
  simp only [List.map_nil] at h3
  refine ⟨zs, k + 1 + z.toNat, by simp at h1; omega, h2, by omega, by omega, ?_⟩
  simp at h1
  simp_arith [congrFun (v__law_any_1a_1.eq_1), congrFun (v__law_any_1a_0.eq_1), congrFun (v__law_any_2.eq_1), congrFun (v__law_any_1.eq_1), congrFun (v__law_any.eq_1), congrFun (V__law_any.eq_1), e, hx, h3, iv_snoc]
end
def Itm (y : PV) : Prop := Ord y ∧ ShD 50 y 200
def Good (L : Nat) (x : PV) : Prop := (∃ ys, x = .tup ys ∧ ys.length ≤ L ∧ ∀ y ∈ ys, Itm y) ∨ (∃ ys, x = .lst ys ∧ ys.length ≤ L ∧ ∀ y ∈ ys, Itm y) ∨ (Itm x ∧ ∀ ys, x ≠ .tup ys)
theorem Good.mono {L K : Nat} {x : PV} (h : Good L x) (hl : L ≤ K) : Good K x := by
  rcases h with ⟨ys, a, b, c⟩ | ⟨ys, a, b, c⟩ | h
  · exact .inl ⟨ys, a, by omega, c⟩
  · exact .inr (.inl ⟨ys, a, by omega, c⟩)
  · exact .inr (.inr h)
theorem itm_int {z : Int} (h : z.natAbs < 2 ^ 90) : Itm (.int z) := ⟨ord_int z, (shd_int 50 h (by decide)).le (by decide)⟩
theorem itm_non : Itm .non := ⟨ord_non, (shd_non 50).le (by decide)⟩
theorem itm_bl (b : Bool) : Itm (.bl b) := ⟨ord_bl b, (shd_bl 50 b).le (by decide)⟩
theorem itm_str {s : Str} (h : (PyData.str s).showable = true := by decide +kernel) (h2 : (PyData.shown (.str s)).length ≤ 40 := by decide +kernel) : Itm (.str s) := ⟨ord_str s, (shd_str 50 h h2).le (by decide)⟩
theorem itm_tup1 : Itm (.tup [.int 1]) := ⟨ord_tup _, (shd_tup (n := 49) (B := 91) 1 (fun y hy => by rw [List.mem_singleton.mp hy]; exact shd_int 49 (k := 90) (by decide) (by decide)) (by decide)).le (by decide)⟩
theorem itm_lst0 : Itm (.lst []) := ⟨ord_lst _, (shd_lst (n := 49) (B := 0) 0 (fun y hy => by cases hy) (by decide)).le (by decide)⟩
theorem itm_dct0 : Itm (.dct []) := ⟨ord_dct _, (shd_dct 49).le (by decide)⟩
theorem good_tup {L : Nat} {ys : List PV} (h : ys.length ≤ L) (h2 : ∀ y ∈ ys, Itm y) : Good L (.tup ys) := .inl ⟨ys, rfl, h, h2⟩
theorem itm_one {y : PV} (h : Itm y) : ∀ x ∈ [y], Itm x := fun x hx => by rw [List.mem_singleton.mp hx]; exact h
theorem itm_app {a b : List PV} (h : ∀ y ∈ a, Itm y) (h2 : ∀ y ∈ b, Itm y) : ∀ y ∈ a ++ b, Itm y := fun y hy => by
  rcases List.mem_append.mp hy with hy | hy
  · exact h y hy
  · exact h2 y hy
section
variable {ns : List Int} {k : Int} {ys : List PV}
theorem bent_ex (h0 : 0 ≤ k) (hk : k < 800000) (hl : ns.length ≤ 63) (hy : ∀ y ∈ ys, Itm y) (hyl : ys.length ≤ 100) : ∃ x, Good (ys.length + 1) x ∧ V__law_bent [.rol (iv ns), .lst [.int k], .tup ys] = .ok x [.lst [.int (k + 2)]] := by
  have c0 := cell_nn ns k
  have e := cell_eq (ns := ns) (k := k) h0 (by omega) hl
  generalize cellv ns k = n at c0 e
  have d0 := cell_nn ns (k + 1)
  have e2 := cell_eq (ns := ns) (k := k + 1) (by omega) (by omega) hl
  generalize cellv ns (k + 1) = m at d0 e2
  rw [show k + 1 + 1 = k + 2 by omega] at e2
  cases ys with
  | nil =>
    obtain ⟨x, hx, gx⟩ := pick_of (xs := [.tup [.non], .lst [], .tup [.bl true], .tup [.int 2], .tup [.int 1], .non, .str "row"]) (Good 1) (Int.emod_nonneg n (show (7 : Int) ≠ 0 by decide)) (Int.emod_lt_of_pos n (show (0 : Int) < 7 by decide)) (by
      intro x hx
      simp only [List.mem_cons, List.not_mem_nil, or_false] at hx
      rcases hx with rfl | rfl | rfl | rfl | rfl | rfl | rfl
      · exact good_tup (by decide) (itm_one itm_non)
      · exact .inr (.inl ⟨[], rfl, by decide, fun y hy => by cases hy⟩)
      · exact good_tup (by decide) (itm_one (itm_bl _))
      · exact good_tup (by decide) (itm_one (itm_int (by decide)))
      · exact good_tup (by decide) (itm_one (itm_int (by decide)))
      · exact .inr (.inr ⟨itm_non, fun ys e => by cases e⟩)
      · exact .inr (.inr ⟨itm_str, fun ys e => by cases e⟩))
    exact ⟨x, gx, by simp_arith [congrFun (v__law_bent_1a_0.eq_1), congrFun (v__law_bent_4a_0.eq_1), congrFun (v__law_bent_5a_0.eq_1), congrFun (v__law_bent_6a_0.eq_1), congrFun (v__law_bent_7.eq_1), congrFun (v__law_bent_6.eq_1), congrFun (v__law_bent_5.eq_1), congrFun (v__law_bent_4.eq_1), congrFun (v__law_bent_3.eq_1), congrFun (v__law_bent_2.eq_1), congrFun (v__law_bent_1.eq_1), congrFun (v__law_bent.eq_1), congrFun (V__law_bent.eq_1), e, e2, hx]⟩
  | cons y ys =>
    obtain ⟨at', hat, a, rfl, a0, a1⟩ := pick_of (xs := [PV.int (m / 2 % ((ys.length + 1 : Nat) : Int)), .int (((ys.length + 1 : Nat) : Int) - 1)]) (fun x => ∃ z : Int, x = .int z ∧ 0 ≤ z ∧ z ≤ (ys.length : Int)) (Int.emod_nonneg m (show (2 : Int) ≠ 0 by decide)) (Int.emod_lt_of_pos m (show (0 : Int) < 2 by decide)) (by
      intro x hx
      simp only [List.mem_cons, List.not_mem_nil, or_false] at hx
      rcases hx with rfl | rfl
      · exact ⟨_, rfl, Int.emod_nonneg _ (by omega), by have := Int.emod_lt_of_pos (m / 2) (show (0 : Int) < ((ys.length + 1 : Nat) : Int) by omega); omega⟩
      · exact ⟨_, rfl, by omega, by omega⟩)
    obtain ⟨odd, hodd, io⟩ := pick_of (xs := [.non, .bl true, .str "1", .tup [.int 1], .lst [], .int 0, .int 2, .int (0 - 1), .dct []]) Itm (Int.emod_nonneg (n / 6) (show (9 : Int) ≠ 0 by decide)) (Int.emod_lt_of_pos (n / 6) (show (0 : Int) < 9 by decide)) (by
      intro x hx
      simp only [List.mem_cons, List.not_mem_nil, or_false] at hx
      rcases hx with rfl | rfl | rfl | rfl | rfl | rfl | rfl | rfl | rfl
      · exact itm_non
      · exact itm_bl _
      · exact itm_str
      · exact itm_tup1
      · exact itm_lst0
      · exact itm_int (by decide)
      · exact itm_int (by decide)
      · exact itm_int (by decide)
      · exact itm_dct0)
    simp only [Int.reduceSub] at hodd
    have tk : ∀ j, ∀ x ∈ (y :: ys).take j, Itm x := fun j x hx => hy x (List.mem_of_mem_take hx)
    have dr : ∀ j, ∀ x ∈ (y :: ys).drop j, Itm x := fun j x hx => hy x (List.mem_of_mem_drop hx)
    have sl1 : cutV' (y :: ys) none (some a) = (y :: ys).take a.toNat := cut_to a0
    have sl2 : cutV' (y :: ys) (some (a + 1)) none = (y :: ys).drop (a + 1).toNat := cut_from (by omega)
    have sl3 : cutV' (y :: ys) (some a) none = (y :: ys).drop a.toNat := cut_from a0
    have sl4 : cutV' (y :: ys) (some a) (some (a + 1)) = ((y :: ys).drop a.toNat).take ((a + 1).toNat - a.toNat) := cut_both a0 (by omega)
    have md : vMod (.int (m / 2)) (.int ((ys.length + 1 : Nat) : Int)) = some (.int (m / 2 % ((ys.length + 1 : Nat) : Int))) := vMod_pos (by omega)
    have n0 := Int.emod_nonneg n (show (6 : Int) ≠ 0 by decide)
    have n1 := Int.emod_lt_of_pos n (show (0 : Int) < 6 by decide)
    have mm := vMod_pos (i := n) (j := 6) (by decide)
    generalize n % 6 = q at n0 n1 mm
    simp only [List.length_cons] at hyl
    rcases (show q < 3 ∨ q = 3 ∨ q = 4 ∨ q = 5 by omega) with h | rfl | rfl | rfl
    · refine ⟨.tup ((y :: ys).take a.toNat ++ ([odd] ++ (y :: ys).drop (a + 1).toNat)), good_tup (by simp; omega) (itm_app (tk _) (itm_app (itm_one io) (dr _))), ?_⟩
      simp_arith [congrFun (v__law_bent_1a_0.eq_1), congrFun (v__law_bent_4a_0.eq_1), congrFun (v__law_bent_5a_0.eq_1), congrFun (v__law_bent_6a_0.eq_1), congrFun (v__law_bent_7.eq_1), congrFun (v__law_bent_6.eq_1), congrFun (v__law_bent_5.eq_1), congrFun (v__law_bent_4.eq_1), congrFun (v__law_bent_3.eq_1), congrFun (v__law_bent_2.eq_1), congrFun (v__law_bent_1.eq_1), congrFun (v__law_bent.eq_1), congrFun (V__law_bent.eq_1), e, e2, hat, hodd, mm, md, ifp, ifn, sl1, sl2, List.append_assoc]
    · refine ⟨.tup (y :: ys).reverse, good_tup (by simp) (fun x hx => hy x (List.mem_reverse.mp hx)), ?_⟩
      simp_arith [congrFun (v__law_bent_1a_0.eq_1), congrFun (v__law_bent_4a_0.eq_1), congrFun (v__law_bent_5a_0.eq_1), congrFun (v__law_bent_6a_0.eq_1), congrFun (v__law_bent_7.eq_1), congrFun (v__law_bent_6.eq_1), congrFun (v__law_bent_5.eq_1), congrFun (v__law_bent_4.eq_1), congrFun (v__law_bent_3.eq_1), congrFun (v__law_bent_2.eq_1), congrFun (v__law_bent_1.eq_1), congrFun (v__law_bent.eq_1), congrFun (V__law_bent.eq_1), e, e2, hat, hodd, mm, md, ifp, ifn]
    · refine ⟨.tup ((y :: ys).take a.toNat ++ (((y :: ys).drop a.toNat).take ((a + 1).toNat - a.toNat) ++ (y :: ys).drop a.toNat)), good_tup (by simp; omega) (itm_app (tk _) (itm_app (fun x hx => dr _ x (List.mem_of_mem_take hx)) (dr _))), ?_⟩
      simp_arith [congrFun (v__law_bent_1a_0.eq_1), congrFun (v__law_bent_4a_0.eq_1), congrFun (v__law_bent_5a_0.eq_1), congrFun (v__law_bent_6a_0.eq_1), congrFun (v__law_bent_7.eq_1), congrFun (v__law_bent_6.eq_1), congrFun (v__law_bent_5.eq_1), congrFun (v__law_bent_4.eq_1), congrFun (v__law_bent_3.eq_1), congrFun (v__law_bent_2.eq_1), congrFun (v__law_bent_1.eq_1), congrFun (v__law_bent.eq_1), congrFun (V__law_bent.eq_1), e, e2, hat, hodd, mm, md, ifp, ifn, sl1, sl3, sl4, List.append_assoc]
    · obtain ⟨x, hx, gx⟩ := pick_of (xs := [.tup ((y :: ys).take a.toNat ++ (y :: ys).drop (a + 1).toNat), .lst (y :: ys)]) (Good (ys.length + 2)) (Int.emod_nonneg (n / 6) (show (2 : Int) ≠ 0 by decide)) (Int.emod_lt_of_pos (n / 6) (show (0 : Int) < 2 by decide)) (by
        intro x hx
        simp only [List.mem_cons, List.not_mem_nil, or_false] at hx
        rcases hx with rfl | rfl
        · exact good_tup (by simp; omega) (itm_app (tk _) (dr _))
        · exact .inr (.inl ⟨_, rfl, by simp, hy⟩))
      refine ⟨x, gx, ?_⟩
      simp_arith [congrFun (v__law_bent_1a_0.eq_1), congrFun (v__law_bent_4a_0.eq_1), congrFun (v__law_bent_5a_0.eq_1), congrFun (v__law_bent_6a_0.eq_1), congrFun (v__law_bent_7.eq_1), congrFun (v__law_bent_6.eq_1), congrFun (v__law_bent_5.eq_1), congrFun (v__law_bent_4.eq_1), congrFun (v__law_bent_3.eq_1), congrFun (v__law_bent_2.eq_1), congrFun (v__law_bent_1.eq_1), congrFun (v__law_bent.eq_1), congrFun (V__law_bent.eq_1), e, e2, hat, hodd, mm, md, ifp, ifn, sl1, sl2, hx]
end
def FForm8 (f : PV) : Prop := f = .non ∨ f = .str "last" ∨ ∃ i : Nat, f = .int (i : Int) ∧ i < 100
theorem kind_form {x f : PV} (k : Kind x (some f)) : FForm8 f := by
  cases k with
  | form => exact .inl rfl
  | @item xs i x h1 hl ho g hx hb => exact .inr (.inr ⟨_, rfl, by have := (List.getElem?_eq_some_iff.mp hx).1; omega⟩)
  | last => exact .inr (.inl rfl)
theorem vEq_nil0 : vEq (.lst []) (.lst []) = some (.bl true) := rfl
theorem vEq_nil1 {f : PV} (h : FForm8 f) : vEq (.lst [f]) (.lst []) = some (.bl false) := by
  rcases h with rfl | rfl | ⟨i, rfl, _⟩
  · rfl
  · show (if SeqAt.shaped (.list [.str "last"]) = true ∧ SeqAt.shaped (.list []) = true then some (PV.bl (PyData.eqv (.list [.str "last"]) (.list []))) else none) = _
    rw [if_pos ⟨by decide +kernel, by decide +kernel⟩]; rfl
  · rfl
theorem form_sh {f : PV} (h : FForm8 f) : ShD 50 f 60 := by
  rcases h with rfl | rfl | ⟨i, rfl, hi⟩
  · exact (shd_non 50).le (by decide)
  · exact (shs 50).le (by decide)
  · exact (shd_int 50 (k := 10) (by omega) (by decide)).le (by decide)
section
variable {τ : Tb}
theorem good_data {x : PV} (g : Good 43 x) : Ord x ∧ (∀ ys, x = .tup ys → ∀ y ∈ ys, Ord y) ∧ ShD 51 x 9000 := by
  rcases g with ⟨ys, rfl, h1, h2⟩ | ⟨ys, rfl, h1, h2⟩ | ⟨h, hn⟩
  · exact ⟨ord_tup _, fun zs e y hy => by cases e; exact (h2 y hy).1, (shd_tup 43 (fun y hy => (h2 y hy).2) h1).le (by decide)⟩
  · exact ⟨ord_lst _, fun zs e => (by cases e), (shd_lst 43 (fun y hy => (h2 y hy).2) h1).le (by decide)⟩
  · exact ⟨h.1, fun zs e => absurd e (hn zs), (h.2.up).le (by decide)⟩
theorem right08 (H : TOk τ) {x : PV} (g : Good 43 x) : V__law_right τ [x] = .ok (.bl true) [] := by
  obtain ⟨ho, hy, sh⟩ := good_data g
  obtain ⟨f, k⟩ := kind_of ho hy
  obtain ⟨t, et, _⟩ := repV_eq (sh.to 60) (by decide)
  have w := wrong_kind k
  have ir := is_row_kind k
  have ck := check_kind k
  have sb : ∀ b, V__law_same [.lst [.bl b, .bl b], .bl b] = .ok (.bl true) [] := fun b => same2 (shd_bl 59 b) (by decide)
  cases f with
  | some f =>
    have ff := kind_form k
    have ss : V__law_same [.lst [.tup [.str "row", f], .tup [.str "row", f]], .tup [.str "row", f]] = .ok (.bl true) [] := same2 ((shd_pair (shs 50) (form_sh ff)).to 59) (by decide)
    simp only [wrg] at w
    simp only [Option.isNone_some] at ir
    simp only [chk] at ck
    simp_arith [congrFun (v__law_right_1a_0.eq_1 τ), congrFun (v__law_right_5a_0.eq_1 τ), congrFun (v__law_right_9a_0.eq_1 τ), congrFun (v__law_right_13.eq_1 τ), congrFun (v__law_right_12.eq_1 τ), congrFun (v__law_right_11.eq_1 τ), congrFun (v__law_right_10.eq_1 τ), congrFun (v__law_right_9.eq_1 τ), congrFun (v__law_right_8.eq_1 τ), congrFun (v__law_right_7.eq_1 τ), congrFun (v__law_right_6.eq_1 τ), congrFun (v__law_right_5.eq_1 τ), congrFun (v__law_right_4.eq_1 τ), congrFun (v__law_right_3.eq_1 τ), congrFun (v__law_right_2.eq_1 τ), congrFun (v__law_right_1.eq_1 τ), congrFun (v__law_right.eq_1 τ), congrFun (V__law_right.eq_1 τ), w, ir, ck, size_bad ck, height_bad ck, et, vEq_nil1 ff, sb, ss, lam_row H]
  | none =>
    cases k with
    | @row l r =>
      obtain ⟨a, tl, rfl⟩ : ∃ a tl, l = a :: tl := by
        cases l with
        | nil => exact absurd r.pos (by decide)
        | cons a tl => exact ⟨a, tl, rfl⟩
      have sn : V__law_same [.lst [.lst [.non], .lst [.non]], .lst [.non]] = .ok (.bl true) [] := same2 ((shd_one (shd_non 50)).to 59) (by decide)
      have hl := r.len
      simp only [List.length_cons] at hl
      have si : V__law_same [.lst [.lst [.int ((tl.length + 1 : Nat) - 1 : Int)], .lst [.int ((tl.length + 1 : Nat) - 1 : Int)]], .lst [.int ((tl.length + 1 : Nat) - 1 : Int)]] = .ok (.bl true) [] := same2 ((shd_one (shd_int 50 (k := 20) (by omega) (by decide))).to 59) (by decide)
      have ia : Itm (.int a) := by
        rcases g with ⟨ys, e, h1, h2⟩ | ⟨ys, e, h1, h2⟩ | ⟨h, hn⟩
        · cases e; exact h2 _ List.mem_cons_self
        · cases e
        · exact absurd rfl (hn _)
      have sa : V__law_same [.lst [.lst [.int a], .lst [.int a]], .lst [.int a]] = .ok (.bl true) [] := same2 ((shd_one ia.2).to 59) (by decide)
      have so := size_ok r
      have he := height_ok r
      simp only [wrg] at w
      simp only [Option.isNone_none] at ir
      simp only [chk] at ck
      simp only [List.map_cons, List.length_cons] at w ir ck et so he
      simp_arith [congrFun (v__law_right_1a_0.eq_1 τ), congrFun (v__law_right_5a_0.eq_1 τ), congrFun (v__law_right_9a_0.eq_1 τ), congrFun (v__law_right_13.eq_1 τ), congrFun (v__law_right_12.eq_1 τ), congrFun (v__law_right_11.eq_1 τ), congrFun (v__law_right_10.eq_1 τ), congrFun (v__law_right_9.eq_1 τ), congrFun (v__law_right_8.eq_1 τ), congrFun (v__law_right_7.eq_1 τ), congrFun (v__law_right_6.eq_1 τ), congrFun (v__law_right_5.eq_1 τ), congrFun (v__law_right_4.eq_1 τ), congrFun (v__law_right_3.eq_1 τ), congrFun (v__law_right_2.eq_1 τ), congrFun (v__law_right_1.eq_1 τ), congrFun (v__law_right.eq_1 τ), congrFun (V__law_right.eq_1 τ), w, ir, ck, so, he, et, vEq_nil0, sb, sn, si, sa, lam_val]
end
section
variable {τ : Tb} {ns : List Int} {k : Int}
theorem itm_ints {l : List Int} (h : ∀ z ∈ l, z.natAbs < 2 ^ 90) : ∀ y ∈ iv l, Itm y := fun y hy => by
  obtain ⟨z, hz, rfl⟩ := List.mem_map.mp hy
  exact itm_int (h z hz)
theorem turn08 (H : TOk τ) (h0 : 0 ≤ k) (hk : k < 700000) (hl : ns.length ≤ 63) {i : PV} :
    ∃ k', k ≤ k' ∧ k' ≤ k + 100 ∧ v_law_1a_0 τ [some (.rol (iv ns)), some (.lst [.int k]), some i, none, none, none, none, none, none] = .nx [some (.rol (iv ns)), some (.lst [.int k']), none, none, none, none, none, none, none] := by
  obtain ⟨l, k1, hll, hlb, b1, b2, e1⟩ := any08 (ns := ns) (k := k) h0 (by omega) hl
  have hlb' : ∀ z ∈ l ++ [1], z.natAbs < 2 ^ 90 := fun z hz => by
    rcases List.mem_append.mp hz with hz | hz
    · exact hlb z hz
    · rw [List.mem_singleton.mp hz]; decide
  have hlen : (iv (l ++ [1])).length ≤ 41 := by simp; omega
  obtain ⟨x, gx, e2⟩ := bent_ex (ns := ns) (k := k1) (ys := iv (l ++ [1])) (by omega) (by omega) hl (itm_ints hlb') (by omega)
  have r1 := right08 H (good_tup (L := 43) (by omega) (itm_ints hlb'))
  have r2 := right08 H (gx.mono (K := 43) (by omega))
  have r3 := right08 H (x := .lst (iv (l ++ [1]))) (.inr (.inl ⟨_, rfl, by omega, itm_ints hlb'⟩))
  by_cases ht : ∃ ys, x = .tup ys
  · obtain ⟨ys, rfl⟩ := ht
    obtain ⟨y1, y2⟩ : ys.length ≤ 42 ∧ ∀ y ∈ ys, Itm y := by
      rcases gx with ⟨zs, e, h1, h2⟩ | ⟨zs, e, h1, h2⟩ | ⟨h, hn⟩
      · cases e; exact ⟨by omega, h2⟩
      · cases e
      · exact absurd rfl (hn _)
    obtain ⟨x2, gx2, e3⟩ := bent_ex (ns := ns) (k := k1 + 2) (ys := ys) (by omega) (by omega) hl y2 (by omega)
    have r4 := right08 H (gx2.mono (K := 43) (by omega))
    refine ⟨k1 + 2 + 2, by omega, by omega, ?_⟩
    simp_arith [congrFun (v_law_1a2a_0.eq_1 τ), congrFun (v_law_1a3a0a_0.eq_1 τ), congrFun (v_law_1a3a_0.eq_1 τ), congrFun (v_law_1a_3.eq_1 τ), congrFun (v_law_1a_2.eq_1 τ), congrFun (v_law_1a_1.eq_1 τ), congrFun (v_law_1a_0.eq_1 τ), e1, e2, e3, r1, r2, r3, r4]
  · have ho := (good_data (gx.mono (K := 43) (by omega))).1
    have r4 := right08 H (x := .non) (.inr (.inr ⟨itm_non, fun ys e => by cases e⟩))
    refine ⟨k1 + 2, by omega, by omega, ?_⟩
    simp_arith [congrFun (v_law_1a2a_0.eq_1 τ), congrFun (v_law_1a3a0a_0.eq_1 τ), congrFun (v_law_1a3a_0.eq_1 τ), congrFun (v_law_1a_3.eq_1 τ), congrFun (v_law_1a_2.eq_1 τ), congrFun (v_law_1a_1.eq_1 τ), congrFun (v_law_1a_0.eq_1 τ), e1, e2, isi_no_tuple ho fun ys e => ht ⟨ys, e⟩, r1, r2, r3, r4]
theorem law_true (H : TOk τ) (hl : ns.length ≤ 63) : V_law τ [.rol (iv ns)] = .ok (.bl true) [] := by
  obtain ⟨m, hm, em⟩ := min9 ns 3
  have rg : rng1 [.int ((3 : Int) + (if (ns.length : Int) < 9 then (ns.length : Int) else 9))] = some (rngV 0 m) := by
    rw [show (3 : Int) = ((3 : Nat) : Int) from rfl, em, rng1_eq (by omega) (by omega), Int.toNat_natCast]
  obtain ⟨k', h1, h2, e⟩ := turns (fun k => [some (.rol (iv ns)), some (.lst [.int k]), none, none, none, none, none, none, none]) (g := vgN 2) (b := v_law_1a_0 τ) (m := m) 100 (k0 := 0) fun i k hi a1 a2 => by
    obtain ⟨k', b1, b2, e⟩ := turn08 (τ := τ) (ns := ns) (k := k) H a1 (by omega) hl (i := .int (i : Int))
    exact ⟨k', _, b1, b2, rfl, e⟩
  obtain ⟨W, w1, w2, w3⟩ : ∃ W : List PV, W.length = 40 ∧ (∀ y ∈ W, Itm y) ∧ vMul (.tup [.int 3]) (.int 40) = some (.tup W) := ⟨List.replicate 40 (.int 3), by simp, fun y hy => by rw [(List.mem_replicate.mp hy).2]; exact itm_int (by decide), vMul_tup1 (by decide)⟩
  have i1 : ∀ y ∈ [PV.int 1], Itm y := itm_one (itm_int (by decide))
  have gs : ∀ x ∈ [PV.tup (W ++ [.int 1]), .tup (W ++ [.int 3, .int 1]), .tup [.int 1], .tup [.int 0], .tup [], .non, .int 1, .str "row", .dct [], .bl true, .lst [.int 1], .tup [.tup [.int 1]], .tup [.int 1, .bl true]], Good 43 x := by
    intro x hx
    simp only [List.mem_cons, List.not_mem_nil, or_false] at hx
    rcases hx with rfl | rfl | rfl | rfl | rfl | rfl | rfl | rfl | rfl | rfl | rfl | rfl | rfl
    · exact good_tup (by simp; omega) (itm_app w2 i1)
    · refine good_tup (by simp; omega) (itm_app w2 fun y hy => ?_)
      simp only [List.mem_cons, List.not_mem_nil, or_false] at hy
      rcases hy with rfl | rfl <;> exact itm_int (by decide)
    · exact good_tup (by simp) i1
    · exact good_tup (by simp) (itm_one (itm_int (by decide)))
    · exact good_tup (by simp) (fun y hy => by cases hy)
    · exact .inr (.inr ⟨itm_non, fun ys e => by cases e⟩)
    · exact .inr (.inr ⟨itm_int (by decide), fun ys e => by cases e⟩)
    · exact .inr (.inr ⟨itm_str, fun ys e => by cases e⟩)
    · exact .inr (.inr ⟨itm_dct0, fun ys e => by cases e⟩)
    · exact .inr (.inr ⟨itm_bl _, fun ys e => by cases e⟩)
    · exact .inr (.inl ⟨_, rfl, by simp, i1⟩)
    · exact good_tup (by simp) (itm_one itm_tup1)
    · refine good_tup (by simp) fun y hy => ?_
      simp only [List.mem_cons, List.not_mem_nil, or_false] at hy
      rcases hy with rfl | rfl
      · exact itm_int (by decide)
      · exact itm_bl _
  have cl := cloop_map (g := tgVV (.one 6)) (e := vCall (V__law_right τ) [] (vBind [0] [] (vCons (vVar 6) vNil) vNil)) (vs := [6]) (s0 := [none, none, none, none, none, none, none, none, some (.lst [PV.tup (W ++ [.int 1]), .tup (W ++ [.int 3, .int 1]), .tup [.int 1], .tup [.int 0], .tup [], .non, .int 1, .str "row", .dct [], .bl true])]) (fun _ => .bl true) [PV.tup (W ++ [.int 1]), .tup (W ++ [.int 3, .int 1]), .tup [.int 1], .tup [.int 0], .tup [], .non, .int 1, .str "row", .dct [], .bl true, .lst [.int 1], .tup [.tup [.int 1]], .tup [.int 1, .bl true]] (fun x hx => by
    have := right08 H (gs x hx)
    refine ⟨[none, none, none, none, none, none, some x, none, some (.lst [PV.tup (W ++ [.int 1]), .tup (W ++ [.int 3, .int 1]), .tup [.int 1], .tup [.int 0], .tup [], .non, .int 1, .str "row", .dct [], .bl true])], rfl, ?_, rfl⟩
    simp_arith [this]) (by simp)
  have ca := allV_bls [true, true, true, true, true, true, true, true, true, true, true, true, true]
  simp only [List.map_cons, List.map_nil, List.all_cons, List.all_nil, id, Bool.and_self] at ca cl
  simp_arith [congrFun (V_law.eq_1 τ), congrFun (v_law.eq_1 τ), congrFun (v_law_1.eq_1 τ), congrFun (v_law_2.eq_1 τ), congrFun (v_law_3.eq_1 τ), congrFun (v_law_4.eq_1 τ), rg, e, w3, cl, ca]
end

end Dn
end
section
set_option maxHeartbeats 2000000
namespace Lw
open PySem PySem.Spec PyProof.Rows Mn Vn Dn
theorem tb_ok : TOk tb := ⟨by decide +kernel, by decide +kernel, by decide +kernel, by decide +kernel⟩
theorem law_plain (T : Str → Addr) (ns : List Int) (h1 : ns.length ≤ 63) (h2 : ∀ z ∈ ns, Builtin.Int.intBits z ≤ 1048576) : r_law T [.ref 0] (mh0 ns (lamDefs.map fun x => (T x, qLam x))) (fun m _ => m = .bl true) fun _ _ => False :=
  law_by T ns (law_true tb_ok h1)
end Lw
end
section
set_option maxHeartbeats 2000000
namespace Mn
open PySem PySem.Spec PyProof.Rows L2

/-! ### the head's Hook -/
def asM (g : Addr → Option Obj) (n : Nat) : List Addr := (sysModules :: cStatics :: He.asD g n).eraseDups
abbrev fM (g : Addr → Option Obj) (n : Nat) : PySem.W.Frag := He.frT g (asM g n)
abbrev AlM : Type := He.AlD × Bool
def obsM (n : Nat) (fn : List He.DefD) (tf : List He.Defn) (ex : PySem.W.Frag → Bool) (g : Addr → Option Obj) : AlM := (He.obsD [] fn (fM g n), ex (fM g n) && He.tabsB g tf (fM g n))
structure SaysM (fn : List He.DefD) (tf : List He.Defn) (ex : PySem.W.Frag → Bool) (h : Heap) (K : PySem.W.Frag) : Prop where
  d : He.SaysD [] fn K
  more : ex K = true
  hd : ∀ p ∈ tf, PySem.W.codeHdIn K (He.cT K p).1 (He.cT K p).2 = true
  out : ∀ p ∈ tf, K.lookup (He.cT K p).2 = none
  empty : ∀ p ∈ tf, h.get? (He.cT K p).2 = some { cls := .none, data := .fields #[] }
section
variable {n : Nat} {fn : List He.DefD} {tf : List He.Defn} {ex : PySem.W.Frag → Bool}
theorem saysM_of {h : Heap} (e : obsM n fn tf ex h.get? = (He.valD fn, true)) : SaysM fn tf ex h (fM h.get? n) := by
  obtain ⟨h1, h2⟩ := He.ba (congrArg (fun z : AlM => z.2) e)
  have tb : ∀ p ∈ tf, PySem.W.codeHdIn (fM h.get? n) (He.cT (fM h.get? n) p).1 (He.cT (fM h.get? n) p).2 = true ∧ ∃ o, h.get? (He.cT (fM h.get? n) p).2 = some o ∧ He.emptyTab o = true := fun p hp => by
    obtain ⟨h3, h4⟩ := He.ba (List.all_eq_true.mp h2 p hp)
    cases q : h.get? (He.cT (fM h.get? n) p).2 with
    | none => rw [q] at h4; cases h4
    | some o => rw [q] at h4; exact ⟨h3, o, rfl, h4⟩
  refine ⟨congrArg (fun z : AlM => z.1) e, h1, fun p hp => (tb p hp).1, fun p hp => ?_, fun p hp => ?_⟩
  · obtain ⟨_, o, q, z⟩ := tb p hp
    exact He.frT_none q z
  · obtain ⟨_, o, q, z⟩ := tb p hp
    rw [q, He.emptyTab_eq z]
def hookM (n : Nat) (fn : List He.DefD) (tf : List He.Defn) (ex : PySem.W.Frag → Bool) : PySem.W.Hook where
  α := AlM
  obs := fun s => obsM n fn tf ex s.heap.get?
  val := fun _ => (He.valD fn, true)
  says := fun _ h => ∃ K : PySem.W.Frag, K.In h ∧ SaysM fn tf ex h K
  of := fun _ _ e => ⟨_, He.frT_in, saysM_of e⟩
  keeps := fun _ _ _ ⟨K, hK, c⟩ k => ⟨K, PySem.W.Frag.In.keeps hK k, ⟨c.d, c.more, c.hd, c.out, fun p hp => k _ _ (c.empty p hp)⟩⟩
theorem obsM_eq {g : Addr → Option Obj} {s : Shared} (h : ∀ a, g a = s.heap.get? a) : obsM n fn tf ex g = (hookM n fn tf ex).obs s := by
  have e : g = s.heap.get? := funext h
  rw [e]
  rfl
end
/-! ### facts by Bool -/
def mkB (K : PySem.W.Frag) (C : Addr) (tail : List Value) (newId : String) : Bool :=
  PySem.W.excInitIn K C tail newId && (PySem.W.excOver K C tail && (PySem.W.hasDictIn K C && (decide (PySem.W.findIn K (.ref C) "__setattr__" = some (some (.builtin "object.__setattr__"))) && (decide (PySem.W.subIn K (.ref C) (.type "BaseException") = some true) && (decide (PySem.W.typeIn K (.ref C) = some (.type "type")) && PySem.W.keepIn K (.ref C))))))
theorem mkB_ok {K : PySem.W.Frag} {C : Addr} {tail : List Value} {newId : String} (h : mkB K C tail newId = true) : MkC K C tail newId := by
  obtain ⟨h1, h⟩ := He.ba h
  obtain ⟨h2, h⟩ := He.ba h
  obtain ⟨h3, h⟩ := He.ba h
  obtain ⟨h4, h⟩ := He.ba h
  obtain ⟨h5, h⟩ := He.ba h
  obtain ⟨h6, h7⟩ := He.ba h
  exact ⟨h1, h2, h3, of_decide_eq_true h4, of_decide_eq_true h5, of_decide_eq_true h6, h7⟩
def valB (r : Option PySem.W.CFound) (v : Value) : Bool := match r with
  | some (.val u) => decide (u = v)
  | _ => false
def baseB (K : PySem.W.Frag) (B : Addr) (initId : String) : Bool :=
  PySem.W.readsIn K B (.type "type") && (decide (PySem.W.specialIn K (.ref B) "__getattribute__" = some (some (.builtin "type.__getattribute__"))) && valB (PySem.W.findCls K (.ref B) (.type "type") "__init__") (.builtin initId))
theorem baseB_ok {K : PySem.W.Frag} {B : Addr} {initId : String} (h : baseB K B initId = true) : BaseC K B initId := by
  obtain ⟨h1, h⟩ := He.ba h
  obtain ⟨h2, h3⟩ := He.ba h
  refine ⟨h1, of_decide_eq_true h2, ?_⟩
  unfold valB at h3
  split at h3
  · rename_i u e
    rw [e, of_decide_eq_true h3]
  · cases h3
def exkB (K : PySem.W.Frag) (D : Addr) : Bool :=
  (PySem.W.clsIn K D).isSome && (decide (PySem.W.findIn K (.ref D) "__getattribute__" = some (some (.builtin "BaseException.__getattribute__"))) && (decide (PySem.W.findIn K (.ref D) "__getattr__" = some none) && (decide (PySem.W.subIn K (.ref D) (.type "BaseException") = some true) && (PySem.W.hasDictIn K D &&
    (decide (PySem.W.findIn K (.ref D) "__class__" = some (some (.builtin "object.__class__"))) && (decide (PySem.W.specialIn K (.builtin "object.__class__") "__get__" = some (some (.builtin "getset_descriptor.__get__"))) && (decide (PySem.W.takesIn K (.builtin "object.__class__") = some true) && decide (PySem.W.mroIn K D (.type "object") = some true))))))))
theorem exkB_ok {K : PySem.W.Frag} {D : Addr} (h : exkB K D = true) : ExcK K D := by
  obtain ⟨h1, h⟩ := He.ba h
  obtain ⟨h2, h⟩ := He.ba h
  obtain ⟨h3, h⟩ := He.ba h
  obtain ⟨h4, h⟩ := He.ba h
  obtain ⟨h5, h⟩ := He.ba h
  obtain ⟨h6, h⟩ := He.ba h
  obtain ⟨h7, h⟩ := He.ba h
  obtain ⟨h8, h9⟩ := He.ba h
  exact ⟨h1, of_decide_eq_true h2, of_decide_eq_true h3, of_decide_eq_true h4, h5, of_decide_eq_true h6, of_decide_eq_true h7, of_decide_eq_true h8, of_decide_eq_true h9⟩
theorem all_at' {l : List Bool} (h : l.all id = true) (i : Nat) {b : Bool} (e : l[i]? = some b) : b = true := List.all_eq_true.mp h b (List.mem_of_getElem? e)
end Mn
end
section
set_option maxHeartbeats 0
namespace Lw
open PySem PySem.Spec PyProof.Rows L2 Mn
def fnL : List He.DefD := [⟨("is_integer", none), "is_integer", "is_integer", defArgs (top 12), defBody (top 12), defScope (top 12), [], [("least", .non), ("most", .non)]⟩,
  ⟨("check_row", none), "check_row", "check_row", defArgs (top 15), defBody (top 15), defScope (top 15), [], []⟩,
  ⟨("is_row", none), "is_row", "is_row", defArgs (top 16), defBody (top 16), defScope (top 16), [], []⟩,
  ⟨("size_of", none), "size_of", "size_of", defArgs (top 17), defBody (top 17), defScope (top 17), [], []⟩,
  ⟨("height_of", none), "height_of", "height_of", defArgs (top 18), defBody (top 18), defScope (top 18), [], []⟩,
  ⟨("_law_cell", none), "_law_cell", "_law_cell", defArgs (top 20), defBody (top 20), defScope (top 20), [], []⟩,
  ⟨("_law_told", none), "_law_told", "_law_told", defArgs (top 21), defBody (top 21), defScope (top 21), [], []⟩,
  ⟨("_law_same", none), "_law_same", "_law_same", defArgs (top 22), defBody (top 22), defScope (top 22), [], []⟩,
  ⟨("_law_any", none), "_law_any", "_law_any", defArgs (top 23), defBody (top 23), defScope (top 23), [], []⟩,
  ⟨("_law_wrong", none), "_law_wrong", "_law_wrong", defArgs (top 24), defBody (top 24), defScope (top 24), [], []⟩,
  ⟨("_law_bent", none), "_law_bent", "_law_bent", defArgs (top 25), defBody (top 25), defScope (top 25), [], []⟩,
  ⟨("_law_right", none), "_law_right", "_law_right", defArgs (top 26), defBody (top 26), defScope (top 26), [], []⟩,
  ⟨("law", none), "law", "law", defArgs (top 27), defBody (top 27), defScope (top 27), [], []⟩,
  ⟨("InvalidRow", some "__init__"), "__init__", "InvalidRow.__init__", defArgs ((defBodyC (top 6)).getD 0 (.Pass ⟨0, 0, 0, 0⟩)), defBody ((defBodyC (top 6)).getD 0 (.Pass ⟨0, 0, 0, 0⟩)), defScope ((defBodyC (top 6)).getD 0 (.Pass ⟨0, 0, 0, 0⟩)), [.non], []⟩]
def tfL : List He.Defn := [("_law_right", none)]
def exL (K : PySem.W.Frag) : List Bool := [(K.lookup sysModules).isSome,
  (He.Fa.glo "InvalidBag").ok K,
  (He.Fa.glo "InvalidDistance").ok K,
  (He.Fa.glo "InvalidNumber").ok K,
  (He.Fa.glo "InvalidPlace").ok K,
  (He.Fa.glo "InvalidRow").ok K,
  (He.Fa.glo "NoStone").ok K,
  (He.Fa.glo "OutOfBounds").ok K,
  (He.Fa.glo "StoneError").ok K,
  (He.Fa.glo "TooManyStones").ok K,
  (He.Fa.glo "WalkError").ok K,
  (He.Fa.glo "_law_any").ok K,
  (He.Fa.glo "_law_bent").ok K,
  (He.Fa.glo "_law_cell").ok K,
  (He.Fa.glo "_law_right").ok K,
  (He.Fa.glo "_law_same").ok K,
  (He.Fa.glo "_law_told").ok K,
  (He.Fa.glo "_law_wrong").ok K,
  (He.Fa.glo "check_row").ok K,
  (He.Fa.glo "height_of").ok K,
  (He.Fa.glo "is_integer").ok K,
  (He.Fa.glo "is_row").ok K,
  (He.Fa.glo "law").ok K,
  (He.Fa.glo "size_of").ok K,
  (He.Fa.free "RuntimeError").ok K,
  (He.Fa.free "ValueError").ok K,
  (He.Fa.free "all").ok K,
  (He.Fa.free "bool").ok K,
  (He.Fa.free "enumerate").ok K,
  (He.Fa.free "int").ok K,
  (He.Fa.free "isinstance").ok K,
  (He.Fa.free "len").ok K,
  (He.Fa.free "list").ok K,
  (He.Fa.free "min").ok K,
  (He.Fa.free "range").ok K,
  (He.Fa.free "repr").ok K,
  (He.Fa.free "tuple").ok K,
  (He.Fa.int "MAX_STONES" 40).ok K,
  mkB K (He.ga K "InvalidRow") vTail "ValueError.__new__",
  baseB K (He.ga K "StoneError") "ValueError.__init__",
  decide (PySem.W.findIn K (.ref (He.ga K "InvalidRow")) "position" = some none),
  decide (PySem.W.findIn K (.ref (He.ga K "InvalidRow")) "__init__" = some (some (.ref (He.fAd K ("InvalidRow", some "__init__"))))),
  decide (PySem.W.typeIn K (.ref (He.fAd K ("InvalidRow", some "__init__"))) = some (.type "function")),
  xcs.all fun C => exkB K (He.ga K C),
  xcs.all fun C => decide (PySem.W.findIn K (.ref (He.ga K C)) "limit" = some none),
  xcs.all fun C => decide (PySem.W.findIn K (.ref (He.ga K C)) "position" = some none),
  xcs.all fun C => decide (PySem.W.findIn K (.ref (He.ga K C)) "value" = some none),
  xcs.all fun C => decide (PySem.W.exmAny K (.ref (He.ga K C)) [.ref (He.ga K "StoneError"), .ref (He.ga K "WalkError")] = some (xcat C)),
  xcs.all fun C => (["InvalidBag", "InvalidDistance", "InvalidNumber", "InvalidPlace", "InvalidRow", "NoStone", "OutOfBounds", "StoneError", "TooManyStones", "WalkError"] : List Str).all fun x => decide (PySem.W.kitOne K (.ref (He.ga K C)) (.ref (He.ga K x)) = xtI C (.glo x)),
  xcs.all fun C => (["RuntimeError", "ValueError"] : List String).all fun x => decide (PySem.W.kitOne K (.ref (He.ga K C)) (.type x) = xtI C (.ty x)),
  noLst K,
  decide ((tfL.map fun p => (He.cT K p).2).Nodup)]
def exB (K : PySem.W.Frag) : Bool := (exL K).all id
theorem fx_of {K : PySem.W.Frag} {h : Heap} {mg : Str → Option Value} (X : K.In h) (N : h.Ns mainGlobals mg) (c : SaysM fnL tfL exB h K) : FX K mg where
  sm := Option.isSome_iff_exists.mp (all_at' c.more 0 rfl)
  d_is_integer := c.d.def_ 0 rfl
  d_check_row := c.d.def_ 1 rfl
  d_is_row := c.d.def_ 2 rfl
  d_size_of := c.d.def_ 3 rfl
  d_height_of := c.d.def_ 4 rfl
  d__law_cell := c.d.def_ 5 rfl
  d__law_told := c.d.def_ 6 rfl
  d__law_same := c.d.def_ 7 rfl
  d__law_any := c.d.def_ 8 rfl
  d__law_wrong := c.d.def_ 9 rfl
  d__law_bent := c.d.def_ 10 rfl
  d__law_right := c.d.def_ 11 rfl
  d_law := c.d.def_ 12 rfl
  g_InvalidBag := He.glo_ok X N (all_at' c.more 1 rfl)
  g_InvalidDistance := He.glo_ok X N (all_at' c.more 2 rfl)
  g_InvalidNumber := He.glo_ok X N (all_at' c.more 3 rfl)
  g_InvalidPlace := He.glo_ok X N (all_at' c.more 4 rfl)
  g_InvalidRow := He.glo_ok X N (all_at' c.more 5 rfl)
  g_NoStone := He.glo_ok X N (all_at' c.more 6 rfl)
  g_OutOfBounds := He.glo_ok X N (all_at' c.more 7 rfl)
  g_StoneError := He.glo_ok X N (all_at' c.more 8 rfl)
  g_TooManyStones := He.glo_ok X N (all_at' c.more 9 rfl)
  g_WalkError := He.glo_ok X N (all_at' c.more 10 rfl)
  g__law_any := He.glo_ok X N (all_at' c.more 11 rfl)
  g__law_bent := He.glo_ok X N (all_at' c.more 12 rfl)
  g__law_cell := He.glo_ok X N (all_at' c.more 13 rfl)
  g__law_right := He.glo_ok X N (all_at' c.more 14 rfl)
  g__law_same := He.glo_ok X N (all_at' c.more 15 rfl)
  g__law_told := He.glo_ok X N (all_at' c.more 16 rfl)
  g__law_wrong := He.glo_ok X N (all_at' c.more 17 rfl)
  g_check_row := He.glo_ok X N (all_at' c.more 18 rfl)
  g_height_of := He.glo_ok X N (all_at' c.more 19 rfl)
  g_is_integer := He.glo_ok X N (all_at' c.more 20 rfl)
  g_is_row := He.glo_ok X N (all_at' c.more 21 rfl)
  g_law := He.glo_ok X N (all_at' c.more 22 rfl)
  g_size_of := He.glo_ok X N (all_at' c.more 23 rfl)
  z_RuntimeError := He.free_ok X N (all_at' c.more 24 rfl)
  z_ValueError := He.free_ok X N (all_at' c.more 25 rfl)
  z_all := He.free_ok X N (all_at' c.more 26 rfl)
  z_bool := He.free_ok X N (all_at' c.more 27 rfl)
  z_enumerate := He.free_ok X N (all_at' c.more 28 rfl)
  z_int := He.free_ok X N (all_at' c.more 29 rfl)
  z_isinstance := He.free_ok X N (all_at' c.more 30 rfl)
  z_len := He.free_ok X N (all_at' c.more 31 rfl)
  z_list := He.free_ok X N (all_at' c.more 32 rfl)
  z_min := He.free_ok X N (all_at' c.more 33 rfl)
  z_range := He.free_ok X N (all_at' c.more 34 rfl)
  z_repr := He.free_ok X N (all_at' c.more 35 rfl)
  z_tuple := He.free_ok X N (all_at' c.more 36 rfl)
  i_MAX_STONES := He.int_ok X N (all_at' c.more 37 rfl)
  n_InvalidRow := c.d.def_ 13 rfl
  m_InvalidRow := mkB_ok (all_at' c.more 38 rfl)
  b_InvalidRow := baseB_ok (all_at' c.more 39 rfl)
  f_InvalidRow := of_decide_eq_true (all_at' c.more 40 rfl)
  a_InvalidRow := of_decide_eq_true (all_at' c.more 41 rfl)
  t_InvalidRow := of_decide_eq_true (all_at' c.more 42 rfl)
  xk := fun C hC => exkB_ok (List.all_eq_true.mp (all_at' c.more 43 rfl) C hC)
  xn_limit := fun C hC => of_decide_eq_true (List.all_eq_true.mp (all_at' c.more 44 rfl) C hC)
  xn_position := fun C hC => of_decide_eq_true (List.all_eq_true.mp (all_at' c.more 45 rfl) C hC)
  xn_value := fun C hC => of_decide_eq_true (List.all_eq_true.mp (all_at' c.more 46 rfl) C hC)
  x_catch := fun C hC => of_decide_eq_true (List.all_eq_true.mp (all_at' c.more 47 rfl) C hC)
  x_isi := fun C hC x hx => of_decide_eq_true (List.all_eq_true.mp (List.all_eq_true.mp (all_at' c.more 48 rfl) C hC) x hx)
  x_isT := fun C hC x hx => of_decide_eq_true (List.all_eq_true.mp (List.all_eq_true.mp (all_at' c.more 49 rfl) C hC) x hx)
abbrev R : PySem.W.OpenRow := PySem.W.OpenLaw.row PySem.Challenge.rw_stonewalk_k08_rows_checked
abbrev hk : PySem.W.Hook := hookM 4 fnL tfL exB
def ob (s : PySem.W.SharedT) : AlM := obsM 4 fnL tfL exB (HandSHeadRun.getT s)
theorem ob_eq (s : PySem.W.SharedT) : ob s = hk.obs s.abs := obsM_eq (HandSHeadRun.getT_eq s)
def names : List Str := "StoneError" :: "WalkError" :: "InvalidPlace" :: "InvalidDistance" :: "InvalidBag" :: "InvalidRow" :: "InvalidNumber" :: "NoStone" :: "TooManyStones" :: "OutOfBounds" :: "is_integer" :: "MAX_STONES" :: "check_row" :: "is_row" :: "size_of" :: "height_of" :: "_law_cell" :: "_law_told" :: "_law_same" :: "_law_any" :: "_law_wrong" :: "_law_bent" :: "_law_right" :: []
theorem run (w : World) : HandSHeadRun.RunEq R (PySem.W.view R.prog [27]) hk ob 40000 names w := by
  intro os
  kernel_rfl
theorem law_at {K : PySem.W.Frag} {w : World} {h : Heap} {mg : Str → Option Value} {fa : Addr} (X : K.In h) (N : h.Ns mainGlobals mg) (hfa : mg "law" = some (.ref fa)) (c : SaysM fnL tfL exB h K) : LawM PySem.Challenge.rw_stonewalk_k08_rows_checked w K 8 63 "script" mg fa h := by
  have G := fx_of X N c
  obtain ⟨fd, D⟩ := G.d_law
  have e := hfa.symm.trans G.g_law
  cases e
  have eT : (tfL.map fun p => ((He.cT K p).1, (He.cT K p).2, qLam p.1)).map (·.2) = lamDefs.map fun x => ((He.cT K (x, none)).2, qLam x) := rfl
  refine ⟨fd, tfL.map fun p => ((He.cT K p).1, (He.cT K p).2, qLam p.1), r_law (fun x => (He.cT K (x, none)).2), all_at' c.more 50 rfl, fun p hp => ?_, fun p hp => ?_, fun p hp => ?_, ?_, fun s u => FunD.bindsA (ps := ["script"]) D (fun _ _ _ _ _ _ us hl => match us, hl with | [_], _ => rfl) s [u] rfl, fun ns h1 h2 => ?_, fun base KB NB TB => ?_⟩
  · obtain ⟨q, hq, rfl⟩ := List.mem_map.mp hp
    exact c.empty q hq
  · obtain ⟨q, hq, rfl⟩ := List.mem_map.mp hp
    exact c.out q hq
  · obtain ⟨q, hq, rfl⟩ := List.mem_map.mp hp
    exact PySem.W.codeHd_of_K X (c.hd q hq)
  · have z : (tfL.map fun p => (He.cT K p).2).Nodup := of_decide_eq_true (all_at' c.more 51 rfl)
    rw [List.map_map]
    exact z
  · rw [eT]
    exact law_plain (fun x => (He.cT K (x, none)).2) ns h1 h2
  · obtain ⟨fd', D', F⟩ := ok_law (P := (PySem.Challenge.rw_stonewalk_k08_rows_checked).prog) (w := w) (base := base) G (fun x hx => TB (_, _, qLam x) (List.mem_map.mpr ⟨(x, none), by simpa [lamDefs, tfL] using hx, rfl⟩))
    obtain ⟨_, _, _, _, _, _, _, _, _, _, rfl, l1, _⟩ := D.ex
    obtain ⟨_, _, _, _, _, _, _, _, _, _, rfl, l2, _⟩ := D'.ex
    rw [l1] at l2
    cases l2
    exact F
end Lw
section
open PySem PySem.W PySem.Calls PyProof.Rows
theorem PySem.Challenge.cw_stonewalk_k08_rows_checked_holds : PySem.Challenge.rw_stonewalk_k08_rows_checked.Holds := by
  w_on; o_law
  refine HandSHeadRun.head_any (r := OpenLaw.row PySem.Challenge.rw_stonewalk_k08_rows_checked) (q := view (OpenLaw.row PySem.Challenge.rw_stonewalk_k08_rows_checked).prog [27]) (H := Lw.hk) (ob := Lw.ob) (M := 40000) (loose := Lw.names) (d := HandSHeadRun.topDef (OpenLaw.row PySem.Challenge.rw_stonewalk_k08_rows_checked).prog 27) (kwd := []) Lw.ob_eq
    (by kernel_rfl) (fun s => by kernel_rfl) Lw.run (by kernel_rfl) (by kernel_rfl) (by kernel_rfl) (by rfl) (by first | assumption | decide +kernel) (by decide +kernel) ⟨rfl, rfl, rfl, rfl, rfl, by decide +kernel⟩ ?hw ?hc
  case hw => w_witness2
  case hc =>
    refine Mn.walk_M (l := PySem.Challenge.rw_stonewalk_k08_rows_checked) (n := 63) (k := 8) (x := "script") rfl (by decide) (by kernel_rfl) ⟨⟨rfl, by decide, by decide⟩, rfl⟩ ?F
    intro w mg fa h Y G hmg0
    obtain ⟨K, KX, c⟩ := Y
    have hmg : mg ("law" : PySem.Str) = some (.ref fa) := by
      have e : (HandSHeadRun.topDef (OpenLaw.row PySem.Challenge.rw_stonewalk_k08_rows_checked).prog 27).name = ("law" : PySem.Str) := by kernel_rfl
      rw [← e]
      exact hmg0
    exact ⟨K, KX, Lw.law_at KX G hmg c⟩
end
end
