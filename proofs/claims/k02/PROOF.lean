import PyProof.Rows.All
import Wide.All
import OpenK.AllK
import Wide.FinOn
import HandS.ForMost
import HandS.Wide
import HandS.Deep
import HandS.IsInst
import HandS.Conv
import HandS.Style
import HandS.TupMul
import HandS.SortInts
import HandS.More
import PyProof.StrBlock2
import HandS.TupAny
import HandS.Zip0
import HandS.Zip
import HandS.SetFor
import HandS.Strs
import HandS.WideBits
import HandS.Rev
import HandS.RevTup
import PyProof.NeKinds
import PyProof.EqAt
import HandS.TupSets
import KE.SortData
import HandS.SortRule
import PyProof.CollectIter
import PyProof.WalksMore
import HandS.RevRange
import HandS.Iter
import HandS.ListItems
import HandS.Sort
import HandS.SortOrd
import KE.KExcIs
import HandS.Exc
import HandS.ExcOwn
import HandS.ExcInit
import HandS.ExcField
import HandS.ExcIs
import HandS.WordsExc
import PySem.Challenge.RW_choosewright_k02_things_that_are_none
set_option Elab.async false
set_option linter.all false
set_option maxRecDepth 100000
/-! DL: a logic of data over the hand layer: frozen data by value (PyData), owned objects by cell. -/
namespace DL
open PySem PySem.Spec PyProof.Rows L2

/-- what a slot holds: frozen data, or an object that the code at hand owns -/
inductive S where
  | d (x : PyData)
  | r (a : Addr)
  | t (n : String)
  | scr (ns : List Int)
  /-- a caught exception: its class, its fields -/
  | x (C : Addr) (fs : List (Str × PyData))
/-- what an owned object holds -/
inductive C where
  | lst (xs : List S)
  | tup (xs : List S)
  | dK (kvs : List (Key × S))
  | dT (kvs : List (List Key × S))
  | ins (C dx : Addr) (fs : List (Str × S))
  | lkd (od : Obj) (u : HO) (ks : List (Key × S))
abbrev Mem := Addr → Option C
abbrev Sl := List (Option S)
def mset (m : Mem) (a : Addr) (c : C) : Mem := fun b => if b = a then some c else m b
def mdel (m : Mem) (a : Addr) : Mem := fun b => if b = a then none else m b
theorem mset_same {m : Mem} {a : Addr} {c : C} : mset m a c a = some c := by unfold mset; rw [if_pos rfl]
theorem mset_ne {m : Mem} {a b : Addr} {c : C} (h : b ≠ a) : mset m a c b = m b := by unfold mset; rw [if_neg h]
theorem mset_mset {m : Mem} {a : Addr} {c c' : C} : mset (mset m a c) a c' = mset m a c' := (by
  funext b; unfold mset; split <;> rfl)
theorem mset_comm {m : Mem} {a b : Addr} {c c' : C} (h : a ≠ b) : mset (mset m a c) b c' = mset (mset m b c') a c := (by
  funext x
  unfold mset
  by_cases h1 : x = a
  · subst h1; rw [if_neg h, if_pos rfl]
    simp
  · simp [h1])
theorem mdel_same {m : Mem} {a : Addr} : mdel m a a = none := by unfold mdel; rw [if_pos rfl]
theorem mdel_ne {m : Mem} {a b : Addr} (h : b ≠ a) : mdel m a b = m b := by unfold mdel; rw [if_neg h]
theorem mdel_mset {m : Mem} {a : Addr} {c : C} (h : m a = none) : mdel (mset m a c) a = m := (by
  funext b
  unfold mdel mset
  by_cases hb : b = a
  · subst hb; simp [h]
  · simp [hb])
theorem mset_self {m : Mem} {a : Addr} {c : C} (h : m a = some c) : mset m a c = m := (by
  funext b
  unfold mset
  by_cases hb : b = a
  · subst hb; simp [h]
  · simp [hb])
theorem ne_mem {m : Mem} {a b : Addr} {c : C} (h : m a = some c) (h' : m b = none) : a ≠ b := (by
  rintro rfl; rw [h] at h'; cases h')

section
variable {K : PySem.W.Frag}
theorem same_sqt {H H' : Hp} {a : Addr} {xs : List V} (e : Same H H') (h : SqT K H a xs) : SqT K H' a xs := (by
  rcases h with (h | ⟨o, h⟩) | h
  · exact .inl (.inl (e _ _ h))
  · exact .inl (.inr ⟨o, e _ _ h⟩)
  · exact .inr h)
def kD : Key → PyData
  | .inl i => .int i
  | .inr x => .str x
mutual
/-- frozen data at a value: lists, tuples, dicts (tracked ones) -/
inductive Dq (K : PySem.W.Frag) (H : Hp) : V → PyData → Prop
  | non : Dq K H .non .none
  | bl (b : Bool) : Dq K H (.bl b) (.bool b)
  | int (i : Int) : Dq K H (.int i) (.int i)
  | str (x : Str) : Dq K H (.str x) (.str x)
  | lst {a : Addr} {xs : List V} {ds : List PyData} : H a = some (.lst xs) → DqAll K H xs ds → Dq K H (.ref a) (.list ds)
  | tup {a : Addr} {xs : List V} {ds : List PyData} : H a = some (.tup xs) → DqAll K H xs ds → Dq K H (.ref a) (.tuple ds)
  | dct {a : Addr} {kvs : List (Key × V)} {ps : List (PyData × PyData)} : H a = some (.dK kvs) → DqKs K H kvs ps → Dq K H (.ref a) (.dict ps)
inductive DqAll (K : PySem.W.Frag) (H : Hp) : List V → List PyData → Prop
  | nil : DqAll K H [] []
  | cons {v : V} {vs : List V} {d : PyData} {ds : List PyData} : Dq K H v d → DqAll K H vs ds → DqAll K H (v :: vs) (d :: ds)
inductive DqKs (K : PySem.W.Frag) (H : Hp) : List (Key × V) → List (PyData × PyData) → Prop
  | nil : DqKs K H [] []
  | cons {k : Key} {v : V} {kvs : List (Key × V)} {d : PyData} {ps : List (PyData × PyData)} : Dq K H v d → DqKs K H kvs ps → DqKs K H ((k, v) :: kvs) ((kD k, d) :: ps)
end
mutual
theorem dq_dp {F : Hp} : ∀ {v : V} {d : PyData}, d.canLay0 = true → Dq K F v d → Dp K F v d
  | _, _, _, .non => .non
  | _, _, _, .bl b => .bl b
  | _, _, _, .int i => .int i
  | _, _, _, .str x => .str x
  | _, _, l, .lst h hs => .lst (.inl (.inl h)) (dqa_dpa (by simpa [PyData.canLay0] using l) hs)
  | _, _, l, .tup h hs => .tup (.inl (.inl h)) (dqa_dpa (by simpa [PyData.canLay0] using l) hs)
  | _, _, l, .dct _ _ => by simp [PyData.canLay0] at l
theorem dqa_dpa {F : Hp} : ∀ {vs : List V} {ds : List PyData}, PyData.canLayAll0 ds = true → DqAll K F vs ds → DpAll K F vs ds
  | _, _, _, .nil => .nil
  | _, _, l, .cons h hs => by
    simp [PyData.canLayAll0] at l
    exact .cons (dq_dp l.1 h) (dqa_dpa l.2 hs)
end
mutual
theorem dp_mono {F F' : Hp} (e : Same F F') : ∀ {v : V} {d : PyData}, Dq K F v d → Dq K F' v d
  | _, _, .non => .non
  | _, _, .bl b => .bl b
  | _, _, .int i => .int i
  | _, _, .str x => .str x
  | _, _, .lst h hs => .lst (e _ _ h) (dpa_mono e hs)
  | _, _, .tup h hs => .tup (e _ _ h) (dpa_mono e hs)
  | _, _, .dct h hs => .dct (e _ _ h) (dks_mono e hs)
theorem dpa_mono {F F' : Hp} (e : Same F F') : ∀ {vs : List V} {ds : List PyData}, DqAll K F vs ds → DqAll K F' vs ds
  | _, _, .nil => .nil
  | _, _, .cons h hs => .cons (dp_mono e h) (dpa_mono e hs)
theorem dks_mono {F F' : Hp} (e : Same F F') : ∀ {vs : List (Key × V)} {ds : List (PyData × PyData)}, DqKs K F vs ds → DqKs K F' vs ds
  | _, _, .nil => .nil
  | _, _, .cons h hs => .cons (dp_mono e h) (dks_mono e hs)
end
theorem dpa_len {F : Hp} : ∀ {vs : List V} {ds : List PyData}, DqAll K F vs ds → vs.length = ds.length
  | _, _, .nil => rfl
  | _, _, .cons _ hs => by simp [dpa_len hs]
theorem dpa_get {F : Hp} : ∀ {vs : List V} {ds : List PyData} {i : Nat} {d : PyData}, DqAll K F vs ds → ds[i]? = some d → ∃ v, vs[i]? = some v ∧ Dq K F v d
  | _, _, _, _, .nil, e => by simp at e
  | _, _, 0, _, .cons h _, e => by simp at e; subst e; exact ⟨_, rfl, h⟩
  | _, _, i + 1, d, .cons _ hs, e => by
    obtain ⟨v, h1, h2⟩ := dpa_get (i := i) (d := d) hs (by simpa using e)
    exact ⟨v, by simpa using h1, h2⟩
theorem dpa_get' {F : Hp} : ∀ {vs : List V} {ds : List PyData} {i : Nat} {v : V}, DqAll K F vs ds → vs[i]? = some v → ∃ d, ds[i]? = some d ∧ Dq K F v d
  | _, _, _, _, .nil, e => by simp at e
  | _, _, 0, _, .cons h _, e => by simp at e; subst e; exact ⟨_, rfl, h⟩
  | _, _, i + 1, v, .cons _ hs, e => by
    obtain ⟨d, h1, h2⟩ := dpa_get' (i := i) (v := v) hs (by simpa using e)
    exact ⟨d, by simpa using h1, h2⟩

/-- an exception's object; its fields -/
def exK (a C : Addr) (d : Option Addr) : HO := .ext fun h => ∃ (oe : Obj) (vs : Array Value), h.get? a = some oe ∧ oe.cls = .ref C ∧ oe.dict = d ∧ oe.data = .fields vs
def XF (K : PySem.W.Frag) (F : Hp) (d : Option Addr) (fs : List (Str × PyData)) : Prop := (d = none ∧ fs = []) ∨ ∃ dd vs, d = some dd ∧ F dd = some (.xd vs) ∧ Paired (fun (p : Str × V) (q : Str × PyData) => p.1 = q.1 ∧ Dq K F p.2 q.2) vs fs
theorem xf_mono {F F' : Hp} (e : Same F F') {d : Option Addr} {fs : List (Str × PyData)} (h : XF K F d fs) : XF K F' d fs := (by
  rcases h with h | ⟨dd, vs, h1, h2, h3⟩
  · exact .inl h
  · exact .inr ⟨dd, vs, h1, e _ _ h2, Paired.mapP h3 fun _ _ q => ⟨q.1, dp_mono e q.2⟩⟩)
def RS (K : PySem.W.Frag) (F : Hp) (v : V) : S → Prop
  | .d x => Dq K F v x
  | .r a => v = .ref a
  | .t n => v = .ty n
  | .scr ns => ∃ a, v = .ref a ∧ SqL K F a (ns.map V.int)
  | .x C fs => ∃ a d, v = .ref a ∧ F a = some (exK a C d) ∧ XF K F d fs
theorem rs_mono {F F' : Hp} (e : Same F F') {v : V} {x : S} (h : RS K F v x) : RS K F' v x := (by
  cases x with
  | d x => exact dp_mono e h
  | r a => exact h
  | t n => exact h
  | scr ns => obtain ⟨a, h1, h2⟩ := h; exact ⟨a, h1, e.seq h2⟩
  | x C fs => obtain ⟨a, d, h1, h2, h3⟩ := h; exact ⟨a, d, h1, e _ _ h2, xf_mono e h3⟩)
abbrev RSs (K : PySem.W.Frag) (F : Hp) : List V → List S → Prop := Paired (RS K F)
theorem rss_mono {F F' : Hp} (e : Same F F') {vs : List V} {xs : List S} (h : RSs K F vs xs) : RSs K F' vs xs := Paired.mapP h fun _ _ => rs_mono e
theorem pr_len {α β : Type} {P : α → β → Prop} {as : List α} {bs : List β} (h : Paired P as bs) : as.length = bs.length := Paired.length h
theorem pr_get {α β : Type} {P : α → β → Prop} : ∀ {as : List α} {bs : List β} {i : Nat} {b : β}, Paired P as bs → bs[i]? = some b → ∃ a, as[i]? = some a ∧ P a b
  | _, _, _, _, .nil, e => by simp at e
  | _, _, 0, _, .cons h _, e => by simp at e; subst e; exact ⟨_, rfl, h⟩
  | _, _, i + 1, b, .cons _ hs, e => by
    obtain ⟨a, h1, h2⟩ := pr_get (i := i) (b := b) hs (by simpa using e)
    exact ⟨a, by simpa using h1, h2⟩
theorem pr_get' {α β : Type} {P : α → β → Prop} : ∀ {as : List α} {bs : List β} {i : Nat} {a : α}, Paired P as bs → as[i]? = some a → ∃ b, bs[i]? = some b ∧ P a b
  | _, _, _, _, .nil, e => by simp at e
  | _, _, 0, _, .cons h _, e => by simp at e; subst e; exact ⟨_, rfl, h⟩
  | _, _, i + 1, b, .cons _ hs, e => by
    obtain ⟨a, h1, h2⟩ := pr_get' (i := i) (a := b) hs (by simpa using e)
    exact ⟨a, by simpa using h1, h2⟩
theorem pr_set {α β : Type} {P : α → β → Prop} {a : α} {b : β} (r : P a b) : ∀ {as : List α} {bs : List β} (i : Nat), Paired P as bs → Paired P (as.set i a) (bs.set i b)
  | _, _, _, .nil => .nil
  | _, _, 0, .cons _ t => .cons r t
  | _, _, i + 1, .cons q t => .cons q (pr_set r i t)
theorem pr_app {α β : Type} {P : α → β → Prop} : ∀ {as as' : List α} {bs bs' : List β}, Paired P as bs → Paired P as' bs' → Paired P (as ++ as') (bs ++ bs')
  | _, _, _, _, .nil, s => s
  | _, _, _, _, .cons r t, s => .cons r (pr_app t s)
theorem pr_take {α β : Type} {P : α → β → Prop} : ∀ {as : List α} {bs : List β} (n : Nat), Paired P as bs → Paired P (as.take n) (bs.take n)
  | _, _, 0, _ => .nil
  | _, _, _ + 1, .nil => .nil
  | _, _, n + 1, .cons r t => .cons r (pr_take n t)
theorem pr_drop {α β : Type} {P : α → β → Prop} : ∀ {as : List α} {bs : List β} (n : Nat), Paired P as bs → Paired P (as.drop n) (bs.drop n)
  | _, _, 0, r => r
  | _, _, _ + 1, .nil => .nil
  | _, _, n + 1, .cons _ t => pr_drop n t
theorem pr_rev {α β : Type} {P : α → β → Prop} : ∀ {as : List α} {bs : List β}, Paired P as bs → Paired P as.reverse bs.reverse
  | _, _, .nil => .nil
  | _, _, .cons r t => by
    rw [List.reverse_cons, List.reverse_cons]
    exact pr_app (pr_rev t) (.cons r .nil)
/-- data lists as paired slots -/
theorem dpa_rss {F : Hp} : ∀ {vs : List V} {ds : List PyData}, DqAll K F vs ds → RSs K F vs (ds.map S.d)
  | _, _, .nil => .nil
  | _, _, .cons h hs => .cons h (dpa_rss hs)
theorem rss_dpa {F : Hp} : ∀ {vs : List V} {ds : List PyData}, RSs K F vs (ds.map S.d) → DqAll K F vs ds
  | [], [], .nil => .nil
  | _ :: _, _ :: _, .cons h hs => .cons h (rss_dpa hs)

def RC (K : PySem.W.Frag) (F : Hp) : HO → C → Prop
  | .lst xs, .lst ss => RSs K F xs ss
  | .tup xs, .tup ss => RSs K F xs ss
  | .dK kvs, .dK ks => Paired (fun (p : Key × V) (q : Key × S) => p.1 = q.1 ∧ RS K F p.2 q.2) kvs ks
  | .dT kvs, .dT ks => Paired (fun (p : List Key × V) (q : List Key × S) => p.1 = q.1 ∧ RS K F p.2 q.2) kvs ks
  | .ins C dx fs, .ins C' dx' fs' => C = C' ∧ dx = dx' ∧ Paired (fun (p : Str × V) (q : Str × S) => p.1 = q.1 ∧ RS K F p.2 q.2) fs fs'
  | o, .lkd od u ks => o = .frz od u ∧ ∃ kvs, u = .dK kvs ∧ Paired (fun (p : Key × V) (q : Key × S) => p.1 = q.1 ∧ RS K F p.2 q.2) kvs ks
  | _, _ => False
/-- the heap: frozen F, owned m, hidden R -/
structure Cn (K : PySem.W.Frag) (m : Mem) (F R H : Hp) : Prop where
  own : ∀ a c, m a = some c → F a = none ∧ R a = none ∧ ∃ o, H a = some o ∧ RC K F o c
  hid : ∀ a o, R a = some o → F a = none ∧ H a = some o
  oth : ∀ a, m a = none → R a = none → H a = F a
end
end DL

namespace DL
open PySem PySem.Spec PyProof.Rows L2

section
variable {K : PySem.W.Frag}
/-! ### Cn: what one may do -/
theorem rc_mono {F F' : Hp} (e : Same F F') {o : HO} {c : C} (h : RC K F o c) : RC K F' o c := (by
  cases o <;> cases c <;> first
    | exact h.elim
    | exact ⟨h.1, let ⟨kvs, h1, h2⟩ := h.2; ⟨kvs, h1, Paired.mapP h2 fun _ _ q => ⟨q.1, rs_mono e q.2⟩⟩⟩
    | exact rss_mono e h
    | exact Paired.mapP h fun _ _ q => ⟨q.1, rs_mono e q.2⟩
    | exact ⟨h.1, h.2.1, Paired.mapP h.2.2 fun _ _ q => ⟨q.1, rs_mono e q.2⟩⟩)
theorem cn_sub {m : Mem} {F R H : Hp} (c : Cn K m F R H) : Same F H := fun a o e => by
  cases hm : m a with
  | some x => have := (c.own a x hm).1; rw [e] at this; cases this
  | none =>
    cases hr : R a with
    | some y => have := (c.hid a y hr).1; rw [e] at this; cases this
    | none => rw [c.oth a hm hr]; exact e
theorem cn_fresh {m : Mem} {F R H : Hp} {p : Addr} (c : Cn K m F R H) (h : H p = none) : F p = none ∧ m p = none ∧ R p = none := (by
  refine ⟨?_, ?_, ?_⟩
  · cases e : F p with
    | none => rfl
    | some o => have := cn_sub c p o e; rw [h] at this; cases this
  · cases e : m p with
    | none => rfl
    | some x => obtain ⟨_, _, o, e2, _⟩ := c.own p x e; rw [h] at e2; cases e2
  · cases e : R p with
    | none => rfl
    | some o => have := (c.hid p o e).2; rw [h] at this; cases this)
theorem same_new {H : Hp} {p : Addr} {o : HO} (h : H p = none) : Same H (upd H p o) := fun b x e => by
  rw [upd_ne (ne_of_none e h)]; exact e
/-- a new frozen object -/
theorem cn_newF {m : Mem} {F R H : Hp} {p : Addr} {o : HO} (c : Cn K m F R H) (h : H p = none) : Cn K m (upd F p o) R (upd H p o) := (by
  obtain ⟨hf, hm, hr⟩ := cn_fresh c h
  refine ⟨fun a x e => ?_, fun a u e => ?_, fun a e1 e2 => ?_⟩
  · obtain ⟨h1, h2, o', h3, h4⟩ := c.own a x e
    have ne : a ≠ p := by rintro rfl; rw [hm] at e; cases e
    exact ⟨by rw [upd_ne ne]; exact h1, h2, o', by rw [upd_ne ne]; exact h3, rc_mono (same_new hf) h4⟩
  · obtain ⟨h1, h2⟩ := c.hid a u e
    have ne : a ≠ p := by rintro rfl; rw [hr] at e; cases e
    exact ⟨by rw [upd_ne ne]; exact h1, by rw [upd_ne ne]; exact h2⟩
  · by_cases ne : a = p
    · subst ne; rw [upd_same, upd_same]
    · rw [upd_ne ne, upd_ne ne]; exact c.oth a e1 e2)
/-- a new owned object -/
theorem cn_newO {m : Mem} {F R H : Hp} {p : Addr} {o : HO} {x : C} (c : Cn K m F R H) (h : H p = none) (r : RC K F o x) : Cn K (mset m p x) F R (upd H p o) := (by
  obtain ⟨hf, hm, hr⟩ := cn_fresh c h
  refine ⟨fun a y e => ?_, fun a u e => ?_, fun a e1 e2 => ?_⟩
  · by_cases ne : a = p
    · subst ne; rw [mset_same] at e; cases e; exact ⟨hf, hr, o, upd_same, r⟩
    · rw [mset_ne ne] at e
      obtain ⟨h1, h2, o', h3, h4⟩ := c.own a y e
      exact ⟨h1, h2, o', by rw [upd_ne ne]; exact h3, h4⟩
  · obtain ⟨h1, h2⟩ := c.hid a u e
    have ne : a ≠ p := by rintro rfl; rw [hr] at e; cases e
    exact ⟨h1, by rw [upd_ne ne]; exact h2⟩
  · by_cases ne : a = p
    · subst ne; rw [mset_same] at e1; cases e1
    · rw [mset_ne ne] at e1; rw [upd_ne ne]; exact c.oth a e1 e2)
/-- an owned object changes -/
theorem cn_set {m : Mem} {F R H : Hp} {p : Addr} {o : HO} {x y : C} (c : Cn K m F R H) (h : m p = some y) (r : RC K F o x) : Cn K (mset m p x) F R (upd H p o) := (by
  obtain ⟨hf, hr, _⟩ := c.own p y h
  refine ⟨fun a z e => ?_, fun a u e => ?_, fun a e1 e2 => ?_⟩
  · by_cases ne : a = p
    · subst ne; rw [mset_same] at e; cases e; exact ⟨hf, hr, o, upd_same, r⟩
    · rw [mset_ne ne] at e
      obtain ⟨h1, h2, o', h3, h4⟩ := c.own a z e
      exact ⟨h1, h2, o', by rw [upd_ne ne]; exact h3, h4⟩
  · obtain ⟨h1, h2⟩ := c.hid a u e
    have ne : a ≠ p := by rintro rfl; rw [hr] at e; cases e
    exact ⟨h1, by rw [upd_ne ne]; exact h2⟩
  · by_cases ne : a = p
    · subst ne; rw [mset_same] at e1; cases e1
    · rw [mset_ne ne] at e1; rw [upd_ne ne]; exact c.oth a e1 e2)
/-- fewer owned objects -/
def Le (m' m : Mem) : Prop := ∀ a, m' a = m a ∨ m' a = none
theorem Le.refl (m : Mem) : Le m m := fun _ => .inl rfl
theorem Le.trans {m m' m'' : Mem} (h : Le m'' m') (h' : Le m' m) : Le m'' m := fun a => by
  rcases h a with e | e
  · rcases h' a with e' | e'
    · exact .inl (e.trans e')
    · exact .inr (e.trans e')
  · exact .inr e
theorem Le.del {m : Mem} {a : Addr} : Le (mdel m a) m := fun b => by
  by_cases h : b = a
  · subst h; exact .inr mdel_same
  · exact .inl (mdel_ne h)
theorem Le.set {m : Mem} {a : Addr} {c : C} (h : m a = none) : Le m (mset m a c) := fun b => by
  by_cases hb : b = a
  · subst hb; exact .inr h
  · exact .inl (mset_ne hb).symm
theorem Le.sets {m m' : Mem} {a : Addr} {c : C} (h : Le m m') (e : m a = none) : Le m (mset m' a c) := fun b => by
  by_cases hb : b = a
  · subst hb; exact .inr e
  · rw [mset_ne hb]; exact h b
theorem Le.setb {m m' : Mem} {a : Addr} {c : C} (h : Le m m') : Le (mset m a c) (mset m' a c) := fun b => by
  by_cases hb : b = a
  · subst hb; rw [mset_same, mset_same]; exact .inl rfl
  · rw [mset_ne hb, mset_ne hb]; exact h b
/-- owned objects become frozen: those that m' lacks -/
def frzF (m m' : Mem) (F H : Hp) : Hp := fun a => if (m a).isSome ∧ m' a = none then H a else F a
theorem frzF_same {m m' : Mem} {F R H : Hp} (c : Cn K m F R H) : Same F (frzF m m' F H) := fun a o e => by
  unfold frzF
  split
  · rename_i h
    obtain ⟨x, hx⟩ := Option.isSome_iff_exists.mp h.1
    have := (c.own a x hx).1
    rw [e] at this; cases this
  · exact e
theorem cn_frz {m m' : Mem} {F R H : Hp} (c : Cn K m F R H) (l : Le m' m) : Cn K m' (frzF m m' F H) R H := (by
  refine ⟨fun a x e => ?_, fun a u e => ?_, fun a e1 e2 => ?_⟩
  · have e' : m a = some x := by
      rcases l a with q | q
      · rw [← q]; exact e
      · rw [q] at e; cases e
    obtain ⟨h1, h2, o, h3, h4⟩ := c.own a x e'
    refine ⟨?_, h2, o, h3, rc_mono (frzF_same c) h4⟩
    unfold frzF
    rw [if_neg (by rw [e]; simp)]
    exact h1
  · obtain ⟨h1, h2⟩ := c.hid a u e
    refine ⟨?_, h2⟩
    unfold frzF
    split
    · rename_i h
      obtain ⟨x, hx⟩ := Option.isSome_iff_exists.mp h.1
      have := (c.own a x hx).2.1
      rw [e] at this; cases this
    · exact h1
  · unfold frzF
    split
    · rfl
    · rename_i h
      cases q : m a with
      | none => exact c.oth a q e2
      | some x => exact absurd ⟨by rw [q]; rfl, e1⟩ h)
/-- a slot's data, its owned lists all among those that m' lacks -/
inductive Rp (m m' : Mem) : S → PyData → Prop
  | d {x : PyData} : Rp m m' (.d x) x
  | lst {a : Addr} {xs : List S} {ds : List PyData} : m a = some (.lst xs) → m' a = none → Paired (Rp m m') xs ds → Rp m m' (.r a) (.list ds)
  | tup {a : Addr} {xs : List S} {ds : List PyData} : m a = some (.tup xs) → m' a = none → Paired (Rp m m') xs ds → Rp m m' (.r a) (.tuple ds)
  | dct {a : Addr} {ks : List (Key × S)} {ds : List PyData} : m a = some (.dK ks) → m' a = none → Paired (Rp m m') (ks.map (·.2)) ds → Rp m m' (.r a) (.dict ((ks.map fun p => kD p.1).zip ds))
theorem rp_ds {m m' : Mem} : ∀ {ds : List PyData}, Paired (Rp m m') (ds.map S.d) ds
  | [] => .nil
  | _ :: _ => .cons .d rp_ds
theorem dpa_of {F : Hp} {P : S → PyData → Prop} : ∀ {vs : List V} {xs : List S} {ds : List PyData}, RSs K F vs xs → Paired P xs ds → (∀ v x d, RS K F v x → P x d → Dq K F v d) → DqAll K F vs ds
  | _, _, _, .nil, .nil, _ => .nil
  | _, _, _, .cons h hs, .cons q qs, f => .cons (f _ _ _ h q) (dpa_of hs qs f)
theorem vals_rs {F : Hp} {vs : List (Key × V)} {ks : List (Key × S)} (h : Paired (fun (p : Key × V) (q : Key × S) => p.1 = q.1 ∧ RS K F p.2 q.2) vs ks) : RSs K F (vs.map (·.2)) (ks.map (·.2)) := (by
  induction h with
  | nil => exact .nil
  | cons h _ ih => exact .cons h.2 ih)
theorem dks_of {F F' : Hp} : ∀ {vs : List (Key × V)} {ks : List (Key × S)} {ds : List PyData}, Paired (fun (p : Key × V) (q : Key × S) => p.1 = q.1 ∧ RS K F p.2 q.2) vs ks → DqAll K F' (vs.map (·.2)) ds → DqKs K F' vs ((ks.map fun p => kD p.1).zip ds)
  | _, _, _, .nil, .nil => .nil
  | (k, v) :: vs, (k', x) :: ks, d :: ds, .cons h t, .cons q r => by
    have e : k = k' := h.1
    subst e
    exact .cons q (dks_of t r)
mutual
theorem rp_dp {m m' : Mem} {F R H : Hp} (c : Cn K m F R H) : ∀ {x : S} {d : PyData} {v : V}, Rp m m' x d → RS K F v x → Dq K (frzF m m' F H) v d
  | _, _, _, .d, r => dp_mono (frzF_same c) r
  | .r a, _, v, .lst (ds := ds) hm hm' hp, r => by
    obtain ⟨_, _, o, ho, rc⟩ := c.own a _ hm
    cases o with
    | lst vs =>
      have e : v = .ref a := r
      subst e
      refine Dq.lst ?_ (rps_dp c hp rc)
      unfold frzF
      rw [if_pos ⟨by rw [hm]; rfl, hm'⟩]
      exact ho
    | _ => exact rc.elim
  | .r a, _, v, .tup (ds := ds) hm hm' hp, r => by
    obtain ⟨_, _, o, ho, rc⟩ := c.own a _ hm
    cases o with
    | tup vs =>
      have e : v = .ref a := r
      subst e
      refine Dq.tup ?_ (rps_dp c hp rc)
      unfold frzF
      rw [if_pos ⟨by rw [hm]; rfl, hm'⟩]
      exact ho
    | _ => exact rc.elim
  | .r a, _, v, .dct (ks := ks) (ds := ds) hm hm' hp, r => by
    obtain ⟨_, _, o, ho, rc⟩ := c.own a _ hm
    cases o with
    | dK vs =>
      have e : v = .ref a := r
      subst e
      refine Dq.dct ?_ (dks_of rc (rps_dp c hp (vals_rs rc)))
      unfold frzF
      rw [if_pos ⟨by rw [hm]; rfl, hm'⟩]
      exact ho
    | _ => exact rc.elim
theorem rps_dp {m m' : Mem} {F R H : Hp} (c : Cn K m F R H) : ∀ {xs : List S} {ds : List PyData} {vs : List V}, Paired (Rp m m') xs ds → RSs K F vs xs → DqAll K (frzF m m' F H) vs ds
  | _, _, _, .nil, .nil => .nil
  | _, _, _, .cons q qs, .cons h hs => .cons (rp_dp c q h) (rps_dp c qs hs)
end

/-! ### slots -/
def RO (K : PySem.W.Frag) (F : Hp) : Option V → Option S → Prop
  | _, none => True
  | some v, some x => RS K F v x
  | none, some _ => False
abbrev RG (K : PySem.W.Frag) (F : Hp) : L2.St → Sl → Prop := Paired (RO K F)
theorem ro_mono {F F' : Hp} (e : Same F F') : ∀ {a : Option V} {b : Option S}, RO K F a b → RO K F' a b
  | none, none, _ => True.intro
  | some _, none, _ => True.intro
  | some _, some _, h => rs_mono e h
theorem rg_mono {F F' : Hp} (e : Same F F') {σ : L2.St} {Γ : Sl} (h : RG K F σ Γ) : RG K F' σ Γ := Paired.mapP h fun _ _ => ro_mono e
theorem rg_get {F : Hp} {σ : L2.St} {Γ : Sl} {i : Nat} {x : S} (h : RG K F σ Γ) (e : Γ[i]? = some (some x)) : ∃ v, σ[i]? = some (some v) ∧ RS K F v x := (by
  obtain ⟨a, h1, h2⟩ := pr_get h e
  cases a with
  | none => exact h2.elim
  | some v => exact ⟨v, h1, h2⟩)
theorem rg_set {F : Hp} {σ : L2.St} {Γ : Sl} {v : V} {x : S} (h : RG K F σ Γ) (r : RS K F v x) (i : Nat) : RG K F (σ.set i (some v)) (Γ.set i (some x)) := pr_set (P := RO K F) (a := some v) (b := some x) r i h
theorem rg_none {F : Hp} {σ : L2.St} {Γ : Sl} (h : RG K F σ Γ) (i : Nat) : RG K F (σ.set i none) (Γ.set i none) := pr_set (P := RO K F) (a := none) (b := none) True.intro i h
theorem rg_start {F : Hp} {vs : List V} {xs : List S} (h : RSs K F vs xs) (N : List Str) : RG K F (L2.start N vs) (xs.map some ++ List.replicate (N.length - xs.length) none) := (by
  unfold L2.start
  rw [← pr_len h]
  refine pr_app ?_ ?_
  · clear N
    induction h with
    | nil => exact .nil
    | cons h _ ih => exact .cons h ih
  · generalize N.length - vs.length = n
    induction n with
    | zero => exact .nil
    | succ n ih => exact .cons True.intro ih)
def wipeS (Γ : Sl) : List Nat → Sl
  | [] => Γ
  | v :: vs => (wipeS Γ vs).set v none
theorem rg_wipe {F : Hp} {σ : L2.St} {Γ : Sl} (h : RG K F σ Γ) : ∀ vs : List Nat, RG K F (wipe σ vs) (wipeS Γ vs)
  | [] => h
  | v :: vs => rg_none (rg_wipe h vs) v

/-! ### readings by data -/
variable (K)
abbrev QE := S → Mem → Prop
def AR (t : TE) (Γ : Sl) (m : Mem) (Q : S → Mem → Prop) : Prop :=
  ∀ (σ : L2.St) (F R H : Hp) (Q' : VK), RG K F σ Γ → Cn K m F R H → (∀ v x F' m' H', Same F F' → Cn K m' F' R H' → RS K F' v x → Q x m' → Q' v H') → t σ H Q'
def ART (t : TT) (Γ : Sl) (m : Mem) (Q : Bool → Mem → Prop) : Prop :=
  ∀ (σ : L2.St) (F R H : Hp) (Q' : Bool → Hp → Prop), RG K F σ Γ → Cn K m F R H → (∀ b F' m' H', Same F F' → Cn K m' F' R H' → Q b m' → Q' b H') → t σ H Q'
def ARA (t : TA) (Γ : Sl) (m : Mem) (Q : List S → Mem → Prop) : Prop :=
  ∀ (σ : L2.St) (F R H : Hp) (Q' : List V → Hp → Prop), RG K F σ Γ → Cn K m F R H → (∀ vs xs F' m' H', Same F F' → Cn K m' F' R H' → RSs K F' vs xs → Q xs m' → Q' vs H') → t σ H Q'
def ARO (t : TO) (Γ : Sl) (m : Mem) (Q : Option Int → Mem → Prop) : Prop :=
  ∀ (σ : L2.St) (F R H : Hp) (Q' : Option Int → Hp → Prop), RG K F σ Γ → Cn K m F R H → (∀ o F' m' H', Same F F' → Cn K m' F' R H' → Q o m' → Q' o H') → t σ H Q'
/-- behind a statement -/
structure AD where
  nx : Sl → Mem → Prop
  rt : S → Mem → Prop
  bk : Sl → Mem → Prop := fun _ _ => False
  ct : Sl → Mem → Prop := fun _ _ => False
structure AEnds (D : AD) (F R : Hp) (D' : Ends) : Prop where
  nx : ∀ σ Γ F' m' H', Same F F' → RG K F' σ Γ → Cn K m' F' R H' → D.nx Γ m' → D'.nx σ H'
  rt : ∀ v x F' m' H', Same F F' → Cn K m' F' R H' → RS K F' v x → D.rt x m' → D'.rt v H'
  bk : ∀ σ Γ F' m' H', Same F F' → RG K F' σ Γ → Cn K m' F' R H' → D.bk Γ m' → D'.bk σ H'
  ct : ∀ σ Γ F' m' H', Same F F' → RG K F' σ Γ → Cn K m' F' R H' → D.ct Γ m' → D'.ct σ H'
def ARS (t : TS) (Γ : Sl) (m : Mem) (D : AD) : Prop :=
  ∀ (σ : L2.St) (F R H : Hp) (D' : Ends), RG K F σ Γ → Cn K m F R H → AEnds K D F R D' → t D' σ H
def ARG (g : TG) (x : S) (Γ : Sl) (m : Mem) (Q : Sl → Mem → Prop) : Prop :=
  ∀ (v : V) (σ : L2.St) (F R H : Hp) (Q' : L2.St → Hp → Prop), RS K F v x → RG K F σ Γ → Cn K m F R H → (∀ σ' Γ' F' m' H', Same F F' → RG K F' σ' Γ' → Cn K m' F' R H' → Q Γ' m' → Q' σ' H') → g v σ H Q'
def ARGs (g : TGs) (xs : List S) (Γ : Sl) (m : Mem) (Q : Sl → Mem → Prop) : Prop :=
  ∀ (vs : List V) (σ : L2.St) (F R H : Hp) (Q' : L2.St → Hp → Prop), RSs K F vs xs → RG K F σ Γ → Cn K m F R H → (∀ σ' Γ' F' m' H', Same F F' → RG K F' σ' Γ' → Cn K m' F' R H' → Q Γ' m' → Q' σ' H') → g vs σ H Q'
/-- values only: one, two, a list of them, a receiver and a list -/
def LU (r : V → Hp → VK → Prop) (x : S) (m : Mem) (Q : S → Mem → Prop) : Prop :=
  ∀ (v : V) (F R H : Hp) (Q' : VK), RS K F v x → Cn K m F R H → (∀ v x F' m' H', Same F F' → Cn K m' F' R H' → RS K F' v x → Q x m' → Q' v H') → r v H Q'
def LO (r : R2) (x y : S) (m : Mem) (Q : S → Mem → Prop) : Prop :=
  ∀ (v u : V) (F R H : Hp) (Q' : VK), RS K F v x → RS K F u y → Cn K m F R H → (∀ v x F' m' H', Same F F' → Cn K m' F' R H' → RS K F' v x → Q x m' → Q' v H') → r v u H Q'
def LB (r : List V → Hp → VK → Prop) (xs : List S) (m : Mem) (Q : S → Mem → Prop) : Prop :=
  ∀ (vs : List V) (F R H : Hp) (Q' : VK), RSs K F vs xs → Cn K m F R H → (∀ v x F' m' H', Same F F' → Cn K m' F' R H' → RS K F' v x → Q x m' → Q' v H') → r vs H Q'
def LM (r : V → List V → Hp → VK → Prop) (x : S) (xs : List S) (m : Mem) (Q : S → Mem → Prop) : Prop :=
  ∀ (v : V) (vs : List V) (F R H : Hp) (Q' : VK), RS K F v x → RSs K F vs xs → Cn K m F R H → (∀ v x F' m' H', Same F F' → Cn K m' F' R H' → RS K F' v x → Q x m' → Q' v H') → r v vs H Q'
end

section
variable {K : PySem.W.Frag} {Γ : Sl} {m : Mem} {Q : S → Mem → Prop} {ta tb te : TE} {t u : TT}
theorem same_tr {F F' F'' : Hp} (a : Same F F') (b : Same F' F'') : Same F F'' := a.trans b
theorem ar_mono {Q' : S → Mem → Prop} (h : AR K te Γ m Q) (k : ∀ x m', Q x m' → Q' x m') : AR K te Γ m Q' := fun σ F R H Qc g c f => h σ F R H Qc g c fun v x F' m' H' e c' r q => f v x F' m' H' e c' r (k x m' q)
theorem art_mono {Q Q' : Bool → Mem → Prop} (h : ART K t Γ m Q) (k : ∀ x m', Q x m' → Q' x m') : ART K t Γ m Q' := fun σ F R H Qc g c f => h σ F R H Qc g c fun b F' m' H' e c' q => f b F' m' H' e c' (k b m' q)
theorem ar_var {i : Nat} {x : S} (h : Γ[i]? = some (some x)) (q : Q x m) : AR K (tVar i) Γ m Q := fun σ F R H Q' g c k => by
  obtain ⟨v, h1, h2⟩ := rg_get g h
  exact ⟨v, h1, k v x F m H (Same.refl F) c h2 q⟩
theorem ar_int {i : Int} (q : Q (.d (.int i)) m) : AR K (tC (.int i)) Γ m Q := fun σ F R H Q' g c k => k _ (.d (.int i)) F m H (Same.refl F) c (Dq.int i) q
theorem ar_bl {b : Bool} (q : Q (.d (.bool b)) m) : AR K (tC (.bl b)) Γ m Q := fun σ F R H Q' g c k => k _ (.d (.bool b)) F m H (Same.refl F) c (Dq.bl b) q
theorem ar_str {x : Str} (q : Q (.d (.str x)) m) : AR K (tC (.str x)) Γ m Q := fun σ F R H Q' g c k => k _ (.d (.str x)) F m H (Same.refl F) c (Dq.str x) q
theorem ar_non (q : Q (.d .none) m) : AR K (tC .non) Γ m Q := fun σ F R H Q' g c k => k _ (.d .none) F m H (Same.refl F) c Dq.non q
theorem ar_op {r : R2} (h : AR K ta Γ m fun x m1 => AR K tb Γ m1 fun y m2 => LO K r x y m2 Q) : AR K (tOp r ta tb) Γ m Q := fun σ F R H Q' g c k =>
  h σ F R H _ g c fun v x F1 m1 H1 e1 c1 r1 q1 => q1 σ F1 R H1 _ (rg_mono e1 g) c1 fun u y F2 m2 H2 e2 c2 r2 q2 =>
    q2 v u F2 R H2 Q' (rs_mono e2 r1) r2 c2 fun w z F3 m3 H3 e3 c3 r3 q3 => k w z F3 m3 H3 ((e1.trans e2).trans e3) c3 r3 q3
theorem ar_un {r : V → Hp → VK → Prop} (h : AR K ta Γ m fun x m1 => LU K r x m1 Q) : AR K (tUn r ta) Γ m Q := fun σ F R H Q' g c k =>
  h σ F R H _ g c fun v x F1 m1 H1 e1 c1 r1 q1 => q1 v F1 R H1 Q' r1 c1 fun w z F3 m3 H3 e3 c3 r3 q3 => k w z F3 m3 H3 (e1.trans e3) c3 r3 q3
theorem ar_cb {r : List V → Hp → VK → Prop} {t : TA} (h : ARA K t Γ m fun xs m1 => LB K r xs m1 Q) : AR K (tCB r t) Γ m Q := fun σ F R H Q' g c k =>
  h σ F R H _ g c fun vs xs F1 m1 H1 e1 c1 r1 q1 => q1 vs F1 R H1 Q' r1 c1 fun w z F3 m3 H3 e3 c3 r3 q3 => k w z F3 m3 H3 (e1.trans e3) c3 r3 q3
theorem ara_nil {Q : List S → Mem → Prop} (q : Q [] m) : ARA K tNil Γ m Q := fun σ F R H Q' g c k => k [] [] F m H (Same.refl F) c .nil q
theorem ara_cons {Q : List S → Mem → Prop} {tr : TA} (h : AR K ta Γ m fun x m1 => ARA K tr Γ m1 fun xs m2 => Q (x :: xs) m2) : ARA K (tCons ta tr) Γ m Q := fun σ F R H Q' g c k =>
  h σ F R H _ g c fun v x F1 m1 H1 e1 c1 r1 q1 => q1 σ F1 R H1 _ (rg_mono e1 g) c1 fun vs xs F2 m2 H2 e2 c2 r2 q2 => k (v :: vs) (x :: xs) F2 m2 H2 (e1.trans e2) c2 (.cons (rs_mono e2 r1) r2) q2
/-! displays -/
theorem sz_ok {n : Nat} (h : n ≤ 1000000) : n ≤ sizeLine := Nat.le_trans h (by rw [sizeLine_eq]; decide)
theorem sz_lt {n : Nat} (h : n < 1000000) : n < sizeLine := Nat.lt_of_lt_of_le h (by rw [sizeLine_eq]; decide)
theorem ar_lst {t : TA} (h : ARA K t Γ m fun xs m1 => xs.length ≤ 1000000 ∧ ∀ p, m1 p = none → Q (.r p) (mset m1 p (.lst xs))) : AR K (tLst t) Γ m Q := fun σ F R H Q' g c k =>
  h σ F R H _ g c fun vs xs F1 m1 H1 e1 c1 r1 q1 => ⟨by rw [pr_len r1]; exact sz_ok q1.1, fun p hp => k _ (.r p) F1 _ _ e1 (cn_newO (o := .lst vs) (x := .lst xs) c1 hp r1) rfl (q1.2 p (cn_fresh c1 hp).2.1)⟩
theorem ar_lstD {t : TA} (h : ARA K t Γ m fun xs m1 => ∃ ds : List PyData, xs = ds.map S.d ∧ ds.length ≤ 1000000 ∧ Q (.d (.list ds)) m1) : AR K (tLst t) Γ m Q := fun σ F R H Q' g c k =>
  h σ F R H _ g c fun vs xs F1 m1 H1 e1 c1 r1 q1 => by
    obtain ⟨ds, rfl, hl, q⟩ := q1
    refine ⟨by rw [pr_len r1, List.length_map]; exact sz_ok hl, fun p hp => k _ (.d (.list ds)) _ _ _ (e1.trans (same_new (cn_fresh c1 hp).1)) (cn_newF c1 hp) ?_ q⟩
    exact Dq.lst upd_same (dpa_mono (same_new (cn_fresh c1 hp).1) (rss_dpa r1))
theorem ar_tup {t : TA} (h : ARA K t Γ m fun xs m1 => ∃ ds : List PyData, xs = ds.map S.d ∧ ds.length ≤ 1000000 ∧ Q (.d (.tuple ds)) m1) : AR K (tTup t) Γ m Q := fun σ F R H Q' g c k =>
  h σ F R H _ g c fun vs xs F1 m1 H1 e1 c1 r1 q1 => by
    obtain ⟨ds, rfl, hl, q⟩ := q1
    refine ⟨by rw [pr_len r1, List.length_map]; exact sz_ok hl, fun p hp => k _ (.d (.tuple ds)) _ _ _ (e1.trans (same_new (cn_fresh c1 hp).1)) (cn_newF c1 hp) ?_ q⟩
    exact Dq.tup upd_same (dpa_mono (same_new (cn_fresh c1 hp).1) (rss_dpa r1))
/-! tests -/
theorem art_test (h : AR K te Γ m fun x m1 => ∃ b, x = .d (.bool b) ∧ Q' b m1) : ART K (tTest te) Γ m Q' := fun σ F R H Qc g c k =>
  h σ F R H _ g c fun v x F1 m1 H1 e1 c1 r1 q1 => by
    obtain ⟨b, rfl, q⟩ := q1
    cases r1
    exact ⟨b, rfl, k b F1 m1 H1 e1 c1 q⟩
theorem art_tb (h : AR K te Γ m fun x m1 => ∃ b, x = .d (.bool b) ∧ Q' b m1) : ART K (tB te) Γ m Q' := art_test h
theorem art_and {Q : Bool → Mem → Prop} (h : ART K t Γ m fun b m1 => if b = true then ART K u Γ m1 Q else Q false m1) : ART K (tAnd t u) Γ m Q := fun σ F R H Q' g c k =>
  h σ F R H _ g c fun b F1 m1 H1 e1 c1 q1 => by
    cases b with
    | true => exact (show ART K u Γ m1 Q from q1) σ F1 R H1 Q' (rg_mono e1 g) c1 fun b F2 m2 H2 e2 c2 q2 => k b F2 m2 H2 (e1.trans e2) c2 q2
    | false => exact k false F1 m1 H1 e1 c1 q1
theorem art_or {Q : Bool → Mem → Prop} (h : ART K t Γ m fun b m1 => if b = true then Q true m1 else ART K u Γ m1 Q) : ART K (tOr t u) Γ m Q := fun σ F R H Q' g c k =>
  h σ F R H _ g c fun b F1 m1 H1 e1 c1 q1 => by
    cases b with
    | false => exact (show ART K u Γ m1 Q from q1) σ F1 R H1 Q' (rg_mono e1 g) c1 fun b F2 m2 H2 e2 c2 q2 => k b F2 m2 H2 (e1.trans e2) c2 q2
    | true => exact k true F1 m1 H1 e1 c1 q1
theorem art_not {Q : Bool → Mem → Prop} (h : ART K t Γ m fun b m1 => Q (!b) m1) : ART K (tNot t) Γ m Q := fun σ F R H Q' g c k =>
  h σ F R H _ g c fun b F1 m1 H1 e1 c1 q1 => k (!b) F1 m1 H1 e1 c1 q1
theorem art_yes {Q : Bool → Mem → Prop} (h : Q true m) : ART K tYes Γ m Q := fun σ F R H Q' g c k => k true F m H (Same.refl F) c h
theorem ar_andV (h : AR K ta Γ m fun x m1 => ∃ b, x = .d (.bool b) ∧ if b = true then AR K tb Γ m1 Q else Q (.d (.bool false)) m1) : AR K (tAndV ta tb) Γ m Q := fun σ F R H Q' g c k =>
  h σ F R H _ g c fun v x F1 m1 H1 e1 c1 r1 q1 => by
    obtain ⟨b, rfl, q⟩ := q1
    cases r1
    refine ⟨b, rfl, ?_⟩
    cases b with
    | true => exact (show AR K tb Γ m1 Q from q) σ F1 R H1 Q' (rg_mono e1 g) c1 fun w z F3 m3 H3 e3 c3 r3 q3 => k w z F3 m3 H3 (e1.trans e3) c3 r3 q3
    | false => exact k _ (.d (.bool false)) F1 m1 H1 e1 c1 (Dq.bl false) q
theorem ar_orV (h : AR K ta Γ m fun x m1 => ∃ b, x = .d (.bool b) ∧ if b = true then Q (.d (.bool true)) m1 else AR K tb Γ m1 Q) : AR K (tOrV ta tb) Γ m Q := fun σ F R H Q' g c k =>
  h σ F R H _ g c fun v x F1 m1 H1 e1 c1 r1 q1 => by
    obtain ⟨b, rfl, q⟩ := q1
    cases r1
    refine ⟨b, rfl, ?_⟩
    cases b with
    | false => exact (show AR K tb Γ m1 Q from q) σ F1 R H1 Q' (rg_mono e1 g) c1 fun w z F3 m3 H3 e3 c3 r3 q3 => k w z F3 m3 H3 (e1.trans e3) c3 r3 q3
    | true => exact k _ (.d (.bool true)) F1 m1 H1 e1 c1 (Dq.bl true) q
theorem ar_notV (h : AR K ta Γ m fun x m1 => ∃ b, x = .d (.bool b) ∧ Q (.d (.bool (!b))) m1) : AR K (tNotV ta) Γ m Q := fun σ F R H Q' g c k =>
  h σ F R H _ g c fun v x F1 m1 H1 e1 c1 r1 q1 => by
    obtain ⟨b, rfl, q⟩ := q1
    cases r1
    exact ⟨b, rfl, k _ (.d (.bool (!b))) F1 m1 H1 e1 c1 (Dq.bl (!b)) q⟩
theorem ar_if (h : ART K t Γ m fun b m1 => if b = true then AR K ta Γ m1 Q else AR K tb Γ m1 Q) : AR K (tIf t ta tb) Γ m Q := fun σ F R H Q' g c k =>
  h σ F R H _ g c fun b F1 m1 H1 e1 c1 q1 => by
    cases b with
    | true => exact (show AR K ta Γ m1 Q from q1) σ F1 R H1 Q' (rg_mono e1 g) c1 fun w z F3 m3 H3 e3 c3 r3 q3 => k w z F3 m3 H3 (e1.trans e3) c3 r3 q3
    | false => exact (show AR K tb Γ m1 Q from q1) σ F1 R H1 Q' (rg_mono e1 g) c1 fun w z F3 m3 H3 e3 c3 r3 q3 => k w z F3 m3 H3 (e1.trans e3) c3 r3 q3
/-! slices -/
theorem aro_none {Q : Option Int → Mem → Prop} (q : Q none m) : ARO K tNoPart Γ m Q := fun σ F R H Q' g c k => k none F m H (Same.refl F) c q
theorem aro_some {Q : Option Int → Mem → Prop} (h : AR K te Γ m fun x m1 => ∃ i, x = .d (.int i) ∧ Q (some i) m1) : ARO K (tPart te) Γ m Q := fun σ F R H Q' g c k =>
  h σ F R H _ g c fun v x F1 m1 H1 e1 c1 r1 q1 => by
    obtain ⟨i, rfl, q⟩ := q1
    cases r1
    exact ⟨i, rfl, k (some i) F1 m1 H1 e1 c1 q⟩
def LS (K : PySem.W.Frag) (r : V → Option Int → Option Int → Hp → VK → Prop) (x : S) (lo hi : Option Int) (m : Mem) (Q : S → Mem → Prop) : Prop := LU K (fun v => r v lo hi) x m Q
theorem ar_sl {r : V → Option Int → Option Int → Hp → VK → Prop} {tl th : TO} (h : AR K te Γ m fun x m1 => ARO K tl Γ m1 fun lo m2 => ARO K th Γ m2 fun hi m3 => LS K r x lo hi m3 Q) : AR K (tSl r te tl th) Γ m Q := fun σ F R H Q' g c k =>
  h σ F R H _ g c fun v x F1 m1 H1 e1 c1 r1 q1 => q1 σ F1 R H1 _ (rg_mono e1 g) c1 fun lo F2 m2 H2 e2 c2 q2 => q2 σ F2 R H2 _ (rg_mono (e1.trans e2) g) c2 fun hi F3 m3 H3 e3 c3 q3 =>
    q3 v F3 R H3 Q' (rs_mono (e2.trans e3) r1) c3 fun w z F4 m4 H4 e4 c4 r4 q4 => k w z F4 m4 H4 ((e1.trans (e2.trans e3)).trans e4) c4 r4 q4
/-! methods of built-in types -/
def TyS (K : PySem.W.Frag) (T : String) (x : S) (m : Mem) : Prop := match x with
  | .d (.str _) => T = "str"
  | .d (.list _) => T = "list"
  | .scr _ => T = "list"
  | .x _ _ => False
  | .r a => (T = "list" ∧ ∃ xs, m a = some (.lst xs)) ∨ (T = "dict" ∧ ((∃ ks, m a = some (.dK ks)) ∨ ∃ ks, m a = some (.dT ks)))
  | _ => False
theorem tys_ok {T : String} {x : S} {v : V} {F R H : Hp} (h : TyS K T x m) (r : RS K F v x) (c : Cn K m F R H) : tyV K T v H := (by
  cases x with
  | d x =>
    cases x with
    | str s => cases r; exact h
    | list ds =>
      cases r with
      | lst hs _ => exact .inl ⟨h, _, .inl (.inl (cn_sub c _ _ hs))⟩
    | _ => exact h.elim
  | r a =>
    obtain rfl : v = .ref a := r
    rcases h with ⟨rfl, xs, hm⟩ | ⟨rfl, h⟩
    · obtain ⟨_, _, o, ho, rc⟩ := c.own a _ hm
      cases o with
      | lst vs => exact .inl ⟨rfl, vs, .inl (.inl ho)⟩
      | _ => exact rc.elim
    · rcases h with ⟨ks, hm⟩ | ⟨ks, hm⟩
      · obtain ⟨_, _, o, ho, rc⟩ := c.own a _ hm
        cases o with
        | dK vs => exact .inr (.inr (.inl ⟨rfl, .inl ⟨vs, ho⟩⟩))
        | _ => exact rc.elim
      · obtain ⟨_, _, o, ho, rc⟩ := c.own a _ hm
        cases o with
        | dT vs => exact .inr (.inr (.inl ⟨rfl, .inr ⟨vs, ho⟩⟩))
        | _ => exact rc.elim
  | t n => exact h.elim
  | scr ns => obtain ⟨a, rfl, hs⟩ := r; exact .inl ⟨h, _, (cn_sub c).seq hs⟩
  | x C fs => exact h.elim)
theorem ar_bm {T : String} {r : V → List V → Hp → VK → Prop} {t : TA} (h : AR K te Γ m fun x m1 => TyS K T x m1 ∧ ARA K t Γ m1 fun xs m2 => LM K r x xs m2 Q) : AR K (tBM K T r te t) Γ m Q := fun σ F R H Q' g c k =>
  h σ F R H _ g c fun v x F1 m1 H1 e1 c1 r1 q1 => ⟨tys_ok q1.1 r1 c1, q1.2 σ F1 R H1 _ (rg_mono e1 g) c1 fun vs xs F2 m2 H2 e2 c2 r2 q2 =>
    q2 v vs F2 R H2 Q' (rs_mono e2 r1) r2 c2 fun w z F3 m3 H3 e3 c3 r3 q3 => k w z F3 m3 H3 ((e1.trans e2).trans e3) c3 r3 q3⟩
theorem ar_bm0 {T : String} {r : V → List V → Hp → VK → Prop} (h : AR K te Γ m fun x m1 => TyS K T x m1 ∧ LM K r x [] m1 Q) : AR K (tBM0 K T r te) Γ m Q := fun σ F R H Q' g c k =>
  h σ F R H _ g c fun v x F1 m1 H1 e1 c1 r1 q1 => ⟨tys_ok q1.1 r1 c1, q1.2 v [] F1 R H1 Q' r1 .nil c1 fun w z F3 m3 H3 e3 c3 r3 q3 => k w z F3 m3 H3 (e1.trans e3) c3 r3 q3⟩
/-! calls -/
abbrev FS := List S → Mem → (S → Mem → Prop) → Prop
def toSp (K : PySem.W.Frag) (fs : FS) : Sp := fun vs H Q _ => ∃ (F R : Hp) (m : Mem) (xs : List S) (Z : S → Mem → Prop), Cn K m F R H ∧ RSs K F vs xs ∧ fs xs m Z ∧
  ∀ v x F' m' H', Same F F' → Cn K m' F' R H' → RS K F' v x → Z x m' → Q v H'
theorem ar_call {fs : FS} {E : XK} {t : TA} (h : ARA K t Γ m fun xs m1 => fs xs m1 Q) : AR K (tCall (toSp K fs) [] E t) Γ m Q := fun σ F R H Q' g c k =>
  h σ F R H _ g c fun vs xs F1 m1 H1 e1 c1 r1 q1 => by
    show toSp K fs (vs ++ []) H1 Q' E
    rw [List.append_nil]
    exact ⟨F1, R, m1, xs, Q, c1, r1, q1, fun v x F' m' H' e c' r q => k v x F' m' H' (e1.trans e) c' r q⟩
/-! ghosts -/
/-- owned lists become data -/
theorem ar_gh (h : AR K te Γ m fun x m1 => ∃ m2, Le m2 m1 ∧ (Q x m2 ∨ ∃ d, Rp m1 m2 x d ∧ Q (.d d) m2)) : AR K te Γ m Q := fun σ F R H Q' g c k =>
  h σ F R H _ g c fun v x F1 m1 H1 e1 c1 r1 q1 => by
    obtain ⟨m2, l, q | ⟨d, rp, q⟩⟩ := q1
    · exact k v x _ m2 H1 (e1.trans (frzF_same c1)) (cn_frz c1 l) (rs_mono (frzF_same c1) r1) q
    · exact k v (.d d) _ m2 H1 (e1.trans (frzF_same c1)) (cn_frz c1 l) (rp_dp c1 rp r1) q
end
end DL

namespace DL
open PySem PySem.Spec PyProof.Rows L2

section
variable {K : PySem.W.Frag} {Γ : Sl} {m : Mem} {te : TE} {t u : TS} {D : AD}
theorem aends_nx {D : AD} {F R : Hp} {D' : Ends} {N : Sl → Mem → Prop} {N' : L2.St → Hp → Prop} (h : AEnds K D F R D')
    (hn : ∀ σ Γ F' m' H', Same F F' → RG K F' σ Γ → Cn K m' F' R H' → N Γ m' → N' σ H') : AEnds K { D with nx := N } F R { D' with nx := N' } := ⟨hn, h.rt, h.bk, h.ct⟩
theorem AEnds.mono {D : AD} {F F1 R : Hp} {D' : Ends} (h : AEnds K D F R D') (e : Same F F1) : AEnds K D F1 R D' :=
  ⟨fun σ Γ F' m' H' e1 => h.nx σ Γ F' m' H' (e.trans e1), fun v x F' m' H' e1 => h.rt v x F' m' H' (e.trans e1), fun σ Γ F' m' H' e1 => h.bk σ Γ F' m' H' (e.trans e1), fun σ Γ F' m' H' e1 => h.ct σ Γ F' m' H' (e.trans e1)⟩
theorem ars_seq (h : ARS K t Γ m { D with nx := fun Γ' m' => ARS K u Γ' m' D }) : ARS K (tSeq t u) Γ m D := fun σ F R H D' g c k =>
  h σ F R H { D' with nx := u D' } g c (aends_nx k fun σ' Γ' F' m' H' e g' c' q => q σ' F' R H' D' g' c' (k.mono e))
/-- what stands between two statements, said once -/
theorem ars_cut (Mid : Sl → Mem → Prop) (h : ARS K t Γ m { D with nx := Mid }) (h2 : ∀ Γ' m', Mid Γ' m' → ARS K u Γ' m' D) : ARS K (tSeq t u) Γ m D :=
  ars_seq fun σ F R H D' g c k => h σ F R H D' g c ⟨fun σ Γ F' m' H' e g c q => k.nx σ Γ F' m' H' e g c (h2 _ _ q), k.rt, k.bk, k.ct⟩
theorem ars_next (h : D.nx Γ m) : ARS K tNext Γ m D := fun σ F R H D' g c k => k.nx σ Γ F m H (Same.refl F) g c h
theorem ars_break (h : D.bk Γ m) : ARS K tBreak Γ m D := fun σ F R H D' g c k => k.bk σ Γ F m H (Same.refl F) g c h
theorem ars_cont (h : D.ct Γ m) : ARS K tCont Γ m D := fun σ F R H D' g c k => k.ct σ Γ F m H (Same.refl F) g c h
theorem ars_drop (h : AR K te Γ m fun _ m1 => D.nx Γ m1) : ARS K (tDrop te) Γ m D := fun σ F R H D' g c k =>
  h σ F R H _ g c fun v x F' m' H' e c' r q => k.nx σ Γ F' m' H' e (rg_mono e g) c' q
theorem ars_ret (h : AR K te Γ m D.rt) : ARS K (tRet te) Γ m D := fun σ F R H D' g c k => h σ F R H _ g c fun v x F' m' H' e c' r q => k.rt v x F' m' H' e c' r q
theorem ars_retN (h : D.rt (.d .none) m) : ARS K tRetN Γ m D := fun σ F R H D' g c k => k.rt _ (.d .none) F m H (Same.refl F) c Dq.non h
theorem ars_if {tc : TT} (h : ART K tc Γ m fun b m1 => if b = true then ARS K t Γ m1 D else ARS K u Γ m1 D) : ARS K (tIfS tc t u) Γ m D := fun σ F R H D' g c k =>
  h σ F R H _ g c fun b F' m' H' e c' q => by
    cases b with
    | true => exact (show ARS K t Γ m' D from q) σ F' R H' D' (rg_mono e g) c' (k.mono e)
    | false => exact (show ARS K u Γ m' D from q) σ F' R H' D' (rg_mono e g) c' (k.mono e)
theorem ars_asg {g : TG} (h : AR K te Γ m fun x m1 => ARG K g x Γ m1 D.nx) : ARS K (tAsg te g) Γ m D := fun σ F R H D' gg c k =>
  h σ F R H _ gg c fun v x F1 m1 H1 e1 c1 r1 q => q v σ F1 R H1 _ r1 (rg_mono e1 gg) c1 fun σ' Γ' F' m' H' e g' c' q' => k.nx σ' Γ' F' m' H' (e1.trans e) g' c' q'
theorem ars_mono {D2 : AD} (h : ARS K t Γ m D) (h1 : ∀ Γ m, D.nx Γ m → D2.nx Γ m) (h2 : ∀ x m, D.rt x m → D2.rt x m) (h3 : ∀ Γ m, D.bk Γ m → D2.bk Γ m) (h4 : ∀ Γ m, D.ct Γ m → D2.ct Γ m) : ARS K t Γ m D2 := fun σ F R H D' g c k =>
  h σ F R H D' g c ⟨fun σ Γ F' m' H' e g c q => k.nx σ Γ F' m' H' e g c (h1 _ _ q), fun v x F' m' H' e c r q => k.rt v x F' m' H' e c r (h2 _ _ q), fun σ Γ F' m' H' e g c q => k.bk σ Γ F' m' H' e g c (h3 _ _ q), fun σ Γ F' m' H' e g c q => k.ct σ Γ F' m' H' e g c (h4 _ _ q)⟩
/-- ghost: owned objects are forgotten -/
theorem ars_drp {m2 : Mem} (l : Le m2 m) (h : ARS K t Γ m2 D) : ARS K t Γ m D := fun σ F R H D' g c k =>
  h σ _ R H D' (rg_mono (frzF_same c) g) (cn_frz c l) (k.mono (frzF_same c))
/-- ghost: the list in slot i becomes data -/
theorem ars_frz {m2 : Mem} {i : Nat} {x : S} {d : PyData} (l : Le m2 m) (hi : Γ[i]? = some (some x)) (rp : Rp m m2 x d) (h : ARS K t (Γ.set i (some (.d d))) m2 D) : ARS K t Γ m D := fun σ F R H D' g c k => by
  obtain ⟨v, h1, h2⟩ := rg_get g hi
  have g' := rg_set (rg_mono (frzF_same c) g) (show RS K (frzF m m2 F H) v (.d d) from rp_dp c rp h2) i
  have e : σ.set i (some v) = σ := by
    obtain ⟨hl, he⟩ := List.getElem?_eq_some_iff.mp h1
    rw [← he]; exact List.set_getElem_self hl
  rw [e] at g'
  exact h σ _ R H D' g' (cn_frz c l) (k.mono (frzF_same c))
/-- slots may be forgotten -/
theorem ars_wk {Γ' : Sl} (w : ∀ F σ, RG K F σ Γ → RG K F σ Γ') (h : ARS K t Γ' m D) : ARS K t Γ m D := fun σ F R H D' g c k => h σ F R H D' (w F σ g) c k
/-! targets -/
variable {Q : Sl → Mem → Prop}
theorem arg_name {i : Nat} {x : S} (h : Q (Γ.set i (some x)) m) : ARG K (gName i) x Γ m Q := fun v σ F R H Q' r g c k => k _ _ F m H (Same.refl F) (rg_set g r i) c h
theorem args_nil (h : Q Γ m) : ARGs K gNil [] Γ m Q := fun vs σ F R H Q' r g c k => by
  cases r
  exact ⟨rfl, k σ Γ F m H (Same.refl F) g c h⟩
theorem args_cons {g : TG} {gs : TGs} {x : S} {xs : List S} (h : ARG K g x Γ m fun Γ1 m1 => ARGs K gs xs Γ1 m1 Q) : ARGs K (gCons g gs) (x :: xs) Γ m Q := fun vs σ F R H Q' r gg c k => by
  cases r with
  | cons r rr => exact ⟨_, _, rfl, h _ σ F R H _ r gg c fun σ1 Γ1 F1 m1 H1 e1 g1 c1 q1 => q1 _ σ1 F1 R H1 Q' (rss_mono e1 rr) g1 c1 fun σ' Γ' F' m' H' e g' c' q => k σ' Γ' F' m' H' (e1.trans e) g' c' q⟩
theorem arg_tup {n : Nat} {gs : TGs} {ds : List PyData} (hn : ds.length = n) (h : ARGs K gs (ds.map S.d) Γ m Q) : ARG K (gTup K n gs) (.d (.tuple ds)) Γ m Q := fun v σ F R H Q' r g c k => by
  cases r with
  | tup hs hd => exact ⟨_, _, rfl, .inl (.inl (cn_sub c _ _ hs)), (dpa_len hd).trans hn, h _ σ F R H Q' (dpa_rss hd) g c k⟩
def LSet (K : PySem.W.Frag) (r : TSet) (o i x : S) (m : Mem) (Q : Mem → Prop) : Prop :=
  ∀ (ov iv v : V) (F R H : Hp) (Q' : Hp → Prop), RS K F ov o → RS K F iv i → RS K F v x → Cn K m F R H → (∀ F' m' H', Same F F' → Cn K m' F' R H' → Q m' → Q' H') → r ov iv v H Q'
theorem arg_sub {to ti : TE} {r : TSet} {x : S} (h : AR K to Γ m fun o m1 => AR K ti Γ m1 fun i m2 => LSet K r o i x m2 fun m3 => Q Γ m3) : ARG K (gSub to ti r) x Γ m Q := fun v σ F R H Q' rv g c k =>
  h σ F R H _ g c fun ov o F1 m1 H1 e1 c1 r1 q1 => q1 σ F1 R H1 _ (rg_mono e1 g) c1 fun iv i F2 m2 H2 e2 c2 r2 q2 =>
    q2 ov iv v F2 R H2 _ (rs_mono e2 r1) r2 (rs_mono (e1.trans e2) rv) c2 fun F' m' H' e c' q => k σ Γ F' m' H' ((e1.trans e2).trans e) (rg_mono ((e1.trans e2).trans e) g) c' q
theorem ars_aug {i : Nat} {ti : TIp} {x : S} (hi : Γ[i]? = some (some x)) (h : AR K te Γ m fun y m1 => LO K ti x y m1 fun z m2 => D.nx (Γ.set i (some z)) m2) : ARS K (tAug i te ti) Γ m D := fun σ F R H D' g c k => by
  obtain ⟨v, h1, h2⟩ := rg_get g hi
  exact ⟨v, h1, h σ F R H _ g c fun u y F1 m1 H1 e1 c1 r1 q1 => q1 v u F1 R H1 _ (rs_mono e1 h2) r1 c1 fun w z F2 m2 H2 e2 c2 r2 q2 => k.nx _ _ F2 m2 H2 (e1.trans e2) (rg_set (rg_mono (e1.trans e2) g) r2 i) c2 q2⟩
/-! while -/
theorem ars_while {tc : TT} {tb : TS} (W : Nat → Sl → Mem → Prop) (m0 : Nat) (h0 : W m0 Γ m)
    (hs : ∀ n Γ' m', W n Γ' m' → ART K tc Γ' m' fun b m1 => if b = true then ARS K tb Γ' m1 { D with nx := fun Γ2 m2 => ∃ n', n' < n ∧ W n' Γ2 m2, ct := fun Γ2 m2 => ∃ n', n' < n ∧ W n' Γ2 m2, bk := D.nx } else D.nx Γ' m1) : ARS K (tWhile tc tb) Γ m D := fun σ F R H D' g c k => by
  refine ⟨fun n σ' H' => ∃ Γ' m' F', Same F F' ∧ RG K F' σ' Γ' ∧ Cn K m' F' R H' ∧ W n Γ' m', ⟨m0, Γ, m, F, Same.refl F, g, c, h0⟩, ?_⟩
  rintro n σ1 H1 ⟨Γ1, m1, F1, e1, g1, c1, w1⟩
  refine hs n Γ1 m1 w1 σ1 F1 R H1 _ g1 c1 fun b F2 m2 H2 e2 c2 q2 => ?_
  cases b with
  | true =>
    show ∃ N : L2.St → Hp → Prop, _ ∧ _
    refine ⟨fun σ' H' => ∃ n', n' < n ∧ ∃ Γ' m' F', Same F F' ∧ RG K F' σ' Γ' ∧ Cn K m' F' R H' ∧ W n' Γ' m', fun σ' H' h => h, ?_⟩
    refine (show ARS K tb Γ1 m2 _ from q2) σ1 F2 R H2 _ (rg_mono e2 g1) c2 ⟨?_, ?_, ?_, ?_⟩
    · rintro σ' Γ' F' m' H' e g' c' ⟨n', hn, w⟩
      exact ⟨n', hn, Γ', m', F', (e1.trans e2).trans e, g', c', w⟩
    · exact fun v x F' m' H' e => k.rt v x F' m' H' ((e1.trans e2).trans e)
    · exact fun σ' Γ' F' m' H' e => k.nx σ' Γ' F' m' H' ((e1.trans e2).trans e)
    · rintro σ' Γ' F' m' H' e g' c' ⟨n', hn, w⟩
      exact ⟨n', hn, Γ', m', F', (e1.trans e2).trans e, g', c', w⟩
  | false => exact k.nx σ1 Γ1 F2 m2 H2 (e1.trans e2) (rg_mono e2 g1) c2 q2
/-! ### what is walked -/
structure Yl (K : PySem.W.Frag) (J : It) (F : Hp) (G : Mem → Prop) (ds : List S) : Prop where
  at_ : ∀ i d F' m' R H', ds[i]? = some d → Same F F' → Cn K m' F' R H' → G m' → J.go i H' ∧ ∀ x H2, J.yld i H' x H2 → ∃ F2, Same F' F2 ∧ Cn K m' F2 R H2 ∧ RS K F2 x d
  stop : ∀ F' m' R H', Same F F' → Cn K m' F' R H' → G m' → J.stop ds.length H'
def ARI (K : PySem.W.Frag) (wi : TI) (Γ : Sl) (m : Mem) (Z : List S → (Mem → Prop) → Mem → Prop) : Prop :=
  ∀ (σ : L2.St) (F R H : Hp) (R' : It → Hp → Prop), RG K F σ Γ → Cn K m F R H → (∀ J ds G F' m' H', Same F F' → Cn K m' F' R H' → Yl K J F' G ds → G m' → Z ds G m' → R' J H') → wi σ H R'
theorem ars_for {wi : TI} {g : TG} {tb : TS} (h : ARI K wi Γ m fun ds G m1 => ∃ I : Nat → Sl → Mem → Prop, I 0 Γ m1 ∧
      (∀ i x Γ' m', ds[i]? = some x → I i Γ' m' → G m' ∧ ARG K g x Γ' m' fun Γ2 m2 => ARS K tb Γ2 m2 { D with nx := I (i + 1), ct := I (i + 1), bk := D.nx }) ∧
      (∀ Γ' m', I ds.length Γ' m' → G m' ∧ D.nx Γ' m')) : ARS K (tFor wi g tb) Γ m D := fun σ F R H D' gg c k => by
  refine h σ F R H _ gg c fun J ds G F1 m1 H1 e1 c1 y gm ⟨I, h0, hs, hd⟩ => ?_
  refine ⟨fun i n σ' H' => n = ds.length - i ∧ i ≤ ds.length ∧ ∃ Γ' m' F', Same F1 F' ∧ RG K F' σ' Γ' ∧ Cn K m' F' R H' ∧ I i Γ' m', ⟨ds.length, rfl, Nat.zero_le _, Γ, m1, F1, Same.refl F1, rg_mono e1 gg, c1, h0⟩, ?_⟩
  rintro i n σ2 H2 ⟨rfl, hi, Γ2, m2, F2, e2, g2, c2, i2⟩
  by_cases hlt : i < ds.length
  · have hx : ds[i]? = some ds[i] := List.getElem?_eq_getElem hlt
    obtain ⟨gm2, hbody⟩ := hs i _ Γ2 m2 hx i2
    obtain ⟨go, hy⟩ := y.at_ i _ F2 m2 R H2 hx e2 c2 gm2
    refine .inr ⟨go, fun σ' H' => ∃ Γ' m' F', Same F1 F' ∧ RG K F' σ' Γ' ∧ Cn K m' F' R H' ∧ I (i + 1) Γ' m', fun σ' H' p => ⟨ds.length - (i + 1), by omega, rfl, hlt, p⟩, fun x H3 yx => ?_⟩
    obtain ⟨F3, e3, c3, r3⟩ := hy x H3 yx
    refine hbody x σ2 F3 R H3 _ r3 (rg_mono e3 g2) c3 fun σ4 Γ4 F4 m4 H4 e4 g4 c4 q4 => ?_
    have e14 : Same F1 F4 := (e2.trans e3).trans e4
    refine q4 σ4 F4 R H4 _ g4 c4 ⟨fun σ' Γ' F' m' H' e g' c' q => ⟨Γ', m', F', e14.trans e, g', c', q⟩, fun v x F' m' H' e => k.rt v x F' m' H' ((e1.trans e14).trans e), fun σ' Γ' F' m' H' e => k.nx σ' Γ' F' m' H' ((e1.trans e14).trans e), fun σ' Γ' F' m' H' e g' c' q => ⟨Γ', m', F', e14.trans e, g', c', q⟩⟩
  · have ei : i = ds.length := by omega
    subst ei
    obtain ⟨gm2, hn⟩ := hd Γ2 m2 i2
    exact .inl ⟨y.stop F2 m2 R H2 e2 c2 gm2, k.nx σ2 Γ2 F2 m2 H2 (e1.trans e2) g2 c2 hn⟩
/-! comprehensions -/
def ARGw (K : PySem.W.Frag) (ws : List Nat) (g : TG) (x : S) (Γ : Sl) (m : Mem) (Q : Sl → Mem → Prop) : Prop :=
  ∀ (v : V) (σ : L2.St) (F R H : Hp) (Q' : L2.St → Hp → Prop), RS K F v x → RG K F σ Γ → Cn K m F R H → (∀ σ' Γ' F' m' H', wipe σ' ws = wipe σ ws → Same F F' → RG K F' σ' Γ' → Cn K m' F' R H' → Q Γ' m' → Q' σ' H') → g v σ H Q'
def ARGsw (K : PySem.W.Frag) (ws : List Nat) (g : TGs) (xs : List S) (Γ : Sl) (m : Mem) (Q : Sl → Mem → Prop) : Prop :=
  ∀ (vs : List V) (σ : L2.St) (F R H : Hp) (Q' : L2.St → Hp → Prop), RSs K F vs xs → RG K F σ Γ → Cn K m F R H → (∀ σ' Γ' F' m' H', wipe σ' ws = wipe σ ws → Same F F' → RG K F' σ' Γ' → Cn K m' F' R H' → Q Γ' m' → Q' σ' H') → g vs σ H Q'
theorem wipe_get (σ : L2.St) : ∀ (ws : List Nat) (j : Nat), (wipe σ ws)[j]? = if j ∈ ws then (if j < σ.length then some none else none) else σ[j]?
  | [], j => by simp [wipe]
  | w :: ws, j => by
    show ((wipe σ ws).set w none)[j]? = _
    rw [List.getElem?_set, wipe_get σ ws j, wipe_length]
    by_cases h : w = j
    · subst h; simp
    · have h' : ¬ j = w := fun e => h e.symm
      simp [h, h', List.mem_cons]
theorem wipe_set {σ : L2.St} {ws : List Nat} {i : Nat} (x : Option V) (h : i ∈ ws) : wipe (σ.set i x) ws = wipe σ ws := (by
  apply List.ext_getElem?
  intro j
  rw [wipe_get, wipe_get, List.length_set, List.getElem?_set]
  by_cases hj : j ∈ ws
  · rw [if_pos hj, if_pos hj]
  · have : i ≠ j := by rintro rfl; exact hj h
    rw [if_neg hj, if_neg hj, if_neg this])
theorem wipe_wipe (σ : L2.St) (ws : List Nat) : wipe (wipe σ ws) ws = wipe σ ws := (by
  apply List.ext_getElem?
  intro j
  rw [wipe_get, wipe_get, wipe_length]
  split <;> rfl)
theorem argw_name {ws : List Nat} {i : Nat} {x : S} (hi : i ∈ ws) (h : Q (Γ.set i (some x)) m) : ARGw K ws (gName i) x Γ m Q := fun v σ F R H Q' r g c k => k _ _ F m H (wipe_set _ hi) (Same.refl F) (rg_set g r i) c h
theorem argsw_nil {ws : List Nat} (h : Q Γ m) : ARGsw K ws gNil [] Γ m Q := fun vs σ F R H Q' r g c k => by
  cases r
  exact ⟨rfl, k σ Γ F m H rfl (Same.refl F) g c h⟩
theorem argsw_cons {ws : List Nat} {g : TG} {gs : TGs} {x : S} {xs : List S} (h : ARGw K ws g x Γ m fun Γ1 m1 => ARGsw K ws gs xs Γ1 m1 Q) : ARGsw K ws (gCons g gs) (x :: xs) Γ m Q := fun vs σ F R H Q' r gg c k => by
  cases r with
  | cons r rr => exact ⟨_, _, rfl, h _ σ F R H _ r gg c fun σ1 Γ1 F1 m1 H1 w1 e1 g1 c1 q1 => q1 _ σ1 F1 R H1 Q' (rss_mono e1 rr) g1 c1 fun σ' Γ' F' m' H' w e g' c' q => k σ' Γ' F' m' H' (w.trans w1) (e1.trans e) g' c' q⟩
theorem argw_tup {ws : List Nat} {n : Nat} {gs : TGs} {ds : List PyData} (hn : ds.length = n) (h : ARGsw K ws gs (ds.map S.d) Γ m Q) : ARGw K ws (gTup K n gs) (.d (.tuple ds)) Γ m Q := fun v σ F R H Q' r g c k => by
  cases r with
  | tup hs hd => exact ⟨_, _, rfl, .inl (.inl (cn_sub c _ _ hs)), (dpa_len hd).trans hn, h _ σ F R H Q' (dpa_rss hd) g c k⟩
theorem cn_hide {m : Mem} {F R H : Hp} {p : Addr} {o : HO} (c : Cn K m F R H) (h : H p = none) : Cn K m F (upd R p o) (upd H p o) := (by
  obtain ⟨hf, hm, hr⟩ := cn_fresh c h
  refine ⟨fun a x e => ?_, fun a u e => ?_, fun a e1 e2 => ?_⟩
  · obtain ⟨h1, h2, o', h3, h4⟩ := c.own a x e
    have ne : a ≠ p := by rintro rfl; rw [hm] at e; cases e
    exact ⟨h1, by rw [upd_ne ne]; exact h2, o', by rw [upd_ne ne]; exact h3, h4⟩
  · by_cases ne : a = p
    · subst ne; rw [upd_same] at e; cases e; exact ⟨hf, upd_same⟩
    · rw [upd_ne ne] at e
      obtain ⟨h1, h2⟩ := c.hid a u e
      exact ⟨h1, by rw [upd_ne ne]; exact h2⟩
  · have ne : a ≠ p := by rintro rfl; rw [upd_same] at e2; cases e2
    rw [upd_ne ne] at e2 ⊢
    exact c.oth a e1 e2)
theorem cn_hset {m : Mem} {F R H : Hp} {p : Addr} {o o' : HO} (c : Cn K m F (upd R p o) H) : Cn K m F (upd R p o') (upd H p o') := (by
  have hp := c.hid p o upd_same
  refine ⟨fun a x e => ?_, fun a u e => ?_, fun a e1 e2 => ?_⟩
  · obtain ⟨h1, h2, o'', h3, h4⟩ := c.own a x e
    have ne : a ≠ p := by rintro rfl; rw [upd_same] at h2; cases h2
    rw [upd_ne ne] at h2
    exact ⟨h1, by rw [upd_ne ne]; exact h2, o'', by rw [upd_ne ne]; exact h3, h4⟩
  · by_cases ne : a = p
    · subst ne; rw [upd_same] at e; cases e; exact ⟨hp.1, upd_same⟩
    · rw [upd_ne ne] at e
      obtain ⟨h1, h2⟩ := c.hid a u (by rw [upd_ne ne]; exact e)
      exact ⟨h1, by rw [upd_ne ne]; exact h2⟩
  · have ne : a ≠ p := by rintro rfl; rw [upd_same] at e2; cases e2
    rw [upd_ne ne] at e2 ⊢
    exact c.oth a e1 (by rw [upd_ne ne]; exact e2))
theorem cn_show {m : Mem} {F R H : Hp} {p : Addr} {o : HO} {x : C} (c : Cn K m F (upd R p o) H) (hr : R p = none) (r : RC K F o x) : Cn K (mset m p x) F R H := (by
  have hp := c.hid p o upd_same
  refine ⟨fun a y e => ?_, fun a u e => ?_, fun a e1 e2 => ?_⟩
  · by_cases ne : a = p
    · subst ne; rw [mset_same] at e; cases e; exact ⟨hp.1, hr, o, hp.2, r⟩
    · rw [mset_ne ne] at e
      obtain ⟨h1, h2, o', h3, h4⟩ := c.own a y e
      rw [upd_ne ne] at h2
      exact ⟨h1, h2, o', h3, h4⟩
  · have ne : a ≠ p := by rintro rfl; rw [hr] at e; cases e
    exact c.hid a u (by rw [upd_ne ne]; exact e)
  · by_cases ne : a = p
    · subst ne; rw [mset_same] at e1; cases e1
    · rw [mset_ne ne] at e1; exact c.oth a e1 (by rw [upd_ne ne]; exact e2))
theorem cn_mnone {m : Mem} {F R H : Hp} {p : Addr} {o : HO} (c : Cn K m F (upd R p o) H) : m p = none := (by
  cases e : m p with
  | none => rfl
  | some x => have := (c.own p x e).2.1; rw [upd_same] at this; cases this)
/-- a comprehension: J by the turn and what was made so far; the new list is owned -/
theorem ar_lc {wi : TI} {g : TG} {tt : TT} {ws : List Nat} {Q : S → Mem → Prop} (h : ARI K wi Γ m fun ds G m1 => ds.length ≤ 900000 ∧ ∃ J : Nat → List S → Mem → Prop, J 0 [] m1 ∧
      (∀ i x acc m', ds[i]? = some x → J i acc m' → G m' ∧ ARGw K ws g x (wipeS Γ ws) m' fun Γ2 m2 => ART K tt Γ2 m2 fun b m3 => if b = true then AR K te Γ2 m3 fun y m4 => J (i + 1) (acc ++ [y]) m4 else J (i + 1) acc m3) ∧
      (∀ acc m', J ds.length acc m' → acc.length ≤ ds.length → G m' ∧ ∀ p, m' p = none → Q (.r p) (mset m' p (.lst acc)))) : AR K (tLc wi g tt te ws) Γ m Q := fun σ F R H Q' gg c k => by
  refine h σ F R H _ gg c fun J ds G F1 m1 H1 e1 c1 y gm ⟨hl, I, h0, hs, hd⟩ => ?_
  intro p hp
  have hrp := (cn_fresh c1 hp).2.2
  refine ⟨fun i n H' => n = ds.length - i ∧ i ≤ ds.length ∧ ∃ acc vacc m' F', Same F1 F' ∧ Cn K m' F' (upd R p (.lst vacc)) H' ∧ RSs K F' vacc acc ∧ acc.length ≤ i ∧ I i acc m', ⟨ds.length, rfl, Nat.zero_le _, [], [], m1, F1, Same.refl F1, cn_hide c1 hp, .nil, Nat.le_refl _, h0⟩, ?_⟩
  rintro i n H2 ⟨rfl, hi, acc, vacc, m2, F2, e2, c2, ra, la, i2⟩
  by_cases hlt : i < ds.length
  · have hx : ds[i]? = some ds[i] := List.getElem?_eq_getElem hlt
    obtain ⟨gm2, hbody⟩ := hs i _ acc m2 hx i2
    obtain ⟨go, hy⟩ := y.at_ i _ F2 m2 _ H2 hx e2 c2 gm2
    refine .inr ⟨go, fun H' => ∃ acc vacc m' F', Same F1 F' ∧ Cn K m' F' (upd R p (.lst vacc)) H' ∧ RSs K F' vacc acc ∧ acc.length ≤ i + 1 ∧ I (i + 1) acc m', fun H' q => ⟨ds.length - (i + 1), by omega, rfl, hlt, q⟩, fun x H3 yx => ?_⟩
    obtain ⟨F3, e3, c3, r3⟩ := hy x H3 yx
    refine hbody x (wipe σ ws) F3 _ H3 _ r3 (rg_wipe (rg_mono ((e1.trans e2).trans e3) gg) ws) c3 fun σ4 Γ4 F4 m4 H4 w4 e4 g4 c4 q4 => ⟨w4.trans (wipe_wipe σ ws), ?_⟩
    refine q4 σ4 F4 _ H4 _ g4 c4 fun b F5 m5 H5 e5 c5 q5 => ?_
    cases b with
    | true =>
      refine (show AR K te Γ4 m5 _ from q5) σ4 F5 _ H5 _ (rg_mono e5 g4) c5 fun v z F6 m6 H6 e6 c6 r6 q6 => ?_
      have ev := (c6.hid p (.lst vacc) upd_same).2
      refine ⟨vacc, ev, by rw [pr_len ra]; exact sz_lt (by omega), acc ++ [z], vacc ++ [v], m6, F6, (((e2.trans e3).trans e4).trans e5).trans e6, cn_hset c6, pr_app (rss_mono (((e3.trans e4).trans e5).trans e6) ra) (.cons r6 .nil), by simp; omega, q6⟩
    | false => exact ⟨acc, vacc, m5, F5, ((e2.trans e3).trans e4).trans e5, c5, rss_mono ((e3.trans e4).trans e5) ra, by omega, q5⟩
  · have ei : i = ds.length := by omega
    subst ei
    obtain ⟨gm2, hn⟩ := hd acc m2 i2 la
    refine .inl ⟨y.stop F2 m2 _ H2 e2 c2 gm2, k _ (.r p) F2 (mset m2 p (.lst acc)) H2 (e1.trans e2) (cn_show c2 hrp ra) rfl (hn p (cn_mnone c2))⟩
/-- .. its list as data, the memory as it was -/
theorem ar_lcD {wi : TI} {g : TG} {tt : TT} {ws : List Nat} {Q : S → Mem → Prop} (h : ARI K wi Γ m fun ds G m1 => ds.length ≤ 900000 ∧ ∃ J : Nat → List PyData → Mem → Prop, J 0 [] m1 ∧
      (∀ i x acc m', ds[i]? = some x → J i acc m' → G m' ∧ ARGw K ws g x (wipeS Γ ws) m' fun Γ2 m2 => ART K tt Γ2 m2 fun b m3 => if b = true then AR K te Γ2 m3 fun y m4 => ∃ d, y = .d d ∧ J (i + 1) (acc ++ [d]) m4 else J (i + 1) acc m3) ∧
      (∀ acc m', J ds.length acc m' → acc.length ≤ ds.length → G m' ∧ Q (.d (.list acc)) m')) : AR K (tLc wi g tt te ws) Γ m Q := by
  refine ar_gh (ar_lc fun σ F R H R' gg c k => h σ F R H R' gg c fun J ds G F' m' H' e c' y gm hh => k J ds G F' m' H' e c' y gm ?_)
  obtain ⟨hl, I, h0, hs, hd⟩ := hh
  refine ⟨hl, fun i acc m' => ∃ as : List PyData, acc = as.map S.d ∧ I i as m', ⟨[], rfl, h0⟩, ?_, ?_⟩
  · rintro i x acc m' hx ⟨as, rfl, hi⟩
    obtain ⟨g1, hb⟩ := hs i x as m' hx hi
    refine ⟨g1, fun v σ F R H Q' r g c k => hb v σ F R H Q' r g c fun σ' Γ' F' m' H' w e g' c' q => k σ' Γ' F' m' H' w e g' c' (art_mono q fun b m3 hq => ?_)⟩
    cases b with
    | true =>
      refine ar_mono (show AR K te Γ' m3 _ from hq) fun y m4 ⟨d, ey, hj⟩ => ⟨as ++ [d], by rw [ey, List.map_append]; rfl, hj⟩
    | false => exact ⟨as, rfl, hq⟩
  · rintro acc m' ⟨as, rfl, hi⟩ hl
    obtain ⟨g1, hq⟩ := hd as m' hi (by simpa using hl)
    exact ⟨g1, fun p hp => ⟨m', Le.set hp, .inr ⟨.list as, .lst mset_same hp rp_ds, hq⟩⟩⟩
/-! iterables -/
def G0 : Mem → Prop := fun _ => True
theorem dp_listH {F : Hp} {v : V} {ds : List PyData} (h : Dq K F v (.list ds)) : ∃ a xs, v = .ref a ∧ F a = some (.lst xs) ∧ DqAll K F xs ds := (by
  cases h with
  | lst h1 h2 => exact ⟨_, _, rfl, h1, h2⟩)
theorem dp_list {F : Hp} {v : V} {ds : List PyData} (h : Dq K F v (.list ds)) : ∃ a xs, v = .ref a ∧ SqL K F a xs ∧ DqAll K F xs ds := (by
  obtain ⟨a, xs, h1, h2, h3⟩ := dp_listH h
  exact ⟨a, xs, h1, .inl (.inl h2), h3⟩)
theorem dp_tupH {F : Hp} {v : V} {ds : List PyData} (h : Dq K F v (.tuple ds)) : ∃ a xs, v = .ref a ∧ F a = some (.tup xs) ∧ DqAll K F xs ds := (by
  cases h with
  | tup h1 h2 => exact ⟨_, _, rfl, h1, h2⟩)
theorem dp_tup {F : Hp} {v : V} {ds : List PyData} (h : Dq K F v (.tuple ds)) : ∃ a xs, v = .ref a ∧ SqT K F a xs ∧ DqAll K F xs ds := (by
  cases h with
  | tup h1 h2 => exact ⟨_, _, rfl, .inl (.inl h1), h2⟩)
variable {Z : List S → (Mem → Prop) → Mem → Prop}
theorem yl_list {F : Hp} {a : Addr} {xs : List V} {ds : List PyData} (h1 : SqL K F a xs) (h2 : DqAll K F xs ds) : Yl K (Itl K a) F G0 (ds.map S.d) where
  at_ := fun i d F' m' R H' hd e c _ => by
    rw [List.getElem?_map] at hd
    cases hd' : ds[i]? with
    | none => rw [hd'] at hd; cases hd
    | some d0 =>
      rw [hd'] at hd; cases hd
      obtain ⟨v, hv, hp⟩ := dpa_get h2 hd'
      have hs : SqL K H' a xs := (e.trans (cn_sub c)).seq h1
      refine ⟨⟨xs, v, hs, hv⟩, fun x H2 ⟨e2, hx⟩ => ?_⟩
      subst e2
      have := hx xs hs
      rw [hv] at this; cases this
      exact ⟨F', Same.refl F', c, dp_mono e hp⟩
  stop := fun F' m' R H' e c _ => ⟨xs, (e.trans (cn_sub c)).seq h1, by rw [List.length_map, dpa_len h2]; exact Nat.le_refl _⟩
theorem yl_tup {F : Hp} {a : Addr} {xs : List V} {ds : List PyData} (h1 : SqT K F a xs) (h2 : DqAll K F xs ds) : Yl K (Itt K a) F G0 (ds.map S.d) where
  at_ := fun i d F' m' R H' hd e c _ => by
    rw [List.getElem?_map] at hd
    cases hd' : ds[i]? with
    | none => rw [hd'] at hd; cases hd
    | some d0 =>
      rw [hd'] at hd; cases hd
      obtain ⟨v, hv, hp⟩ := dpa_get h2 hd'
      have hs : SqT K H' a xs := same_sqt (e.trans (cn_sub c)) h1
      refine ⟨⟨xs, v, hs, hv⟩, fun x H2 ⟨e2, hx⟩ => ?_⟩
      subst e2
      have := hx xs hs
      rw [hv] at this; cases this
      exact ⟨F', Same.refl F', c, dp_mono e hp⟩
  stop := fun F' m' R H' e c _ => ⟨xs, same_sqt (e.trans (cn_sub c)) h1, by rw [List.length_map, dpa_len h2]; exact Nat.le_refl _⟩
theorem own_lst {m : Mem} {F R H : Hp} {a : Addr} {xs : List S} (c : Cn K m F R H) (h : m a = some (.lst xs)) : ∃ vs, H a = some (.lst vs) ∧ RSs K F vs xs := (by
  obtain ⟨_, _, o, ho, rc⟩ := c.own a _ h
  cases o with
  | lst vs => exact ⟨vs, ho, rc⟩
  | _ => exact rc.elim)
/-- an owned list, walked while it stays as it is -/
theorem yl_own {F : Hp} {a : Addr} {xs : List S} : Yl K (Itl K a) F (fun m' => m' a = some (.lst xs)) xs where
  at_ := fun i d F' m' R H' hd e c gm => by
    obtain ⟨vs, hv, rv⟩ := own_lst c gm
    obtain ⟨v, h1, h2⟩ := pr_get rv hd
    refine ⟨⟨vs, v, .inl (.inl hv), h1⟩, fun x H2 ⟨e2, hx⟩ => ?_⟩
    subst e2
    have := hx vs (.inl (.inl hv))
    rw [h1] at this; cases this
    exact ⟨F', Same.refl F', c, h2⟩
  stop := fun F' m' R H' e c gm => by
    obtain ⟨vs, hv, rv⟩ := own_lst c gm
    exact ⟨vs, .inl (.inl hv), by rw [pr_len rv]; exact Nat.le_refl _⟩
def ItL (x : S) (m : Mem) (Z : List S → (Mem → Prop) → Mem → Prop) : Prop :=
  (∃ ds, x = .d (.list ds) ∧ Z (ds.map S.d) G0 m) ∨ (∃ a xs, x = .r a ∧ m a = some (.lst xs) ∧ Z xs (fun m' => m' a = some (.lst xs)) m) ∨ ∃ ns : List Int, x = .scr ns ∧ Z (ns.map fun n => S.d (.int n)) G0 m
theorem itl_d {ds : List PyData} (h : Z (ds.map S.d) G0 m) : ItL (.d (.list ds)) m Z := .inl ⟨ds, rfl, h⟩
theorem itl_o {a : Addr} {xs : List S} (h : m a = some (.lst xs)) (q : Z xs (fun m' => m' a = some (.lst xs)) m) : ItL (.r a) m Z := .inr (.inl ⟨a, xs, rfl, h, q⟩)
theorem itl_s {ns : List Int} (h : Z (ns.map fun n => S.d (.int n)) G0 m) : ItL (.scr ns) m Z := .inr (.inr ⟨ns, rfl, h⟩)
theorem ints_dqa {F : Hp} : ∀ {ns : List Int}, DqAll K F (ns.map V.int) (ns.map PyData.int)
  | [] => .nil
  | n :: ns => .cons (.int n) ints_dqa
theorem ari_list (h : AR K te Γ m fun x m1 => ItL x m1 Z) : ARI K (iList K te) Γ m Z := fun σ F R H R' g c k =>
  h σ F R H _ g c fun v x F1 m1 H1 e1 c1 r1 q1 => by
    rcases q1 with ⟨ds, rfl, q⟩ | ⟨a, xs, rfl, hm, q⟩ | ⟨ns, rfl, q⟩
    · obtain ⟨a, xs, rfl, h1, h2⟩ := dp_list r1
      exact ⟨a, rfl, ⟨xs, (cn_sub c1).seq h1⟩, k _ _ _ F1 m1 H1 e1 c1 (yl_list h1 h2) True.intro q⟩
    · obtain rfl : v = .ref a := r1
      obtain ⟨vs, hv, rv⟩ := own_lst c1 hm
      exact ⟨a, rfl, ⟨vs, .inl (.inl hv)⟩, k _ _ _ F1 m1 H1 e1 c1 yl_own hm q⟩
    · obtain ⟨a, rfl, hs⟩ := r1
      exact ⟨a, rfl, ⟨_, (cn_sub c1).seq hs⟩, k _ _ _ F1 m1 H1 e1 c1 (yl_list hs ints_dqa) True.intro (by rw [List.map_map]; exact q)⟩
theorem ari_tup (h : AR K te Γ m fun x m1 => ∃ ds, x = .d (.tuple ds) ∧ Z (ds.map S.d) G0 m1) : ARI K (iTup K te) Γ m Z := fun σ F R H R' g c k =>
  h σ F R H _ g c fun v x F1 m1 H1 e1 c1 r1 q1 => by
    obtain ⟨ds, rfl, q⟩ := q1
    obtain ⟨a, xs, rfl, h1, h2⟩ := dp_tup r1
    exact ⟨a, rfl, ⟨xs, same_sqt (cn_sub c1) h1⟩, k _ _ _ F1 m1 H1 e1 c1 (yl_tup h1 h2) True.intro q⟩
def rgS (lo : Int) (n : Nat) : List S := (List.range n).map fun (k : Nat) => S.d (.int (lo + k))
theorem rgS_get {lo : Int} {n i : Nat} {x : S} (h : (rgS lo n)[i]? = some x) : x = .d (.int (lo + i)) ∧ i < n := (by
  unfold rgS at h
  rw [List.getElem?_map] at h
  by_cases hi : i < n
  · rw [List.getElem?_range hi] at h; cases h; exact ⟨rfl, hi⟩
  · rw [List.getElem?_eq_none (by simp; omega)] at h; cases h)
theorem rgS_len {lo : Int} {n : Nat} : (rgS lo n).length = n := by simp [rgS]
theorem yl_rng {F : Hp} {lo : Int} {n : Nat} : Yl K (Itr lo n) F G0 (rgS lo n) where
  at_ := fun i d F' m' R H' hd e c _ => by
    obtain ⟨rfl, hi⟩ := rgS_get hd
    refine ⟨hi, fun x H2 ⟨e2, hx⟩ => ?_⟩
    subst e2; subst hx
    exact ⟨F', Same.refl F', c, Dq.int _⟩
  stop := fun F' m' R H' e c _ => by rw [rgS_len]; exact Nat.le_refl n
theorem ari_range1 {ta : TA} (h : ARA K ta Γ m fun xs m1 => ∃ j : Int, xs = [.d (.int j)] ∧ (-4000000000000000000 ≤ j ∧ j < 4000000000000000000) ∧ Z (rgS 0 j.toNat) G0 m1) : ARI K (iRng1 ta) Γ m Z := fun σ F R H R' g c k =>
  h σ F R H _ g c fun vs xs F1 m1 H1 e1 c1 r1 q1 => by
    obtain ⟨j, rfl, ⟨h1, h2⟩, q⟩ := q1
    cases r1 with
    | cons a b =>
      cases b; cases a
      exact ⟨j, rfl, by omega, by omega, k _ _ _ F1 m1 H1 e1 c1 yl_rng True.intro q⟩
theorem ari_range2 {ta : TA} (h : ARA K ta Γ m fun xs m1 => ∃ i j : Int, xs = [.d (.int i), .d (.int j)] ∧ (-4000000000000000000 ≤ i ∧ i < 4000000000000000000 ∧ -4000000000000000000 ≤ j ∧ j < 4000000000000000000) ∧ Z (rgS i (j - i).toNat) G0 m1) : ARI K (iRng2 ta) Γ m Z := fun σ F R H R' g c k =>
  h σ F R H _ g c fun vs xs F1 m1 H1 e1 c1 r1 q1 => by
    obtain ⟨i, j, rfl, ⟨h1, h2, h3, h4⟩, q⟩ := q1
    cases r1 with
    | cons a b =>
      cases b with
      | cons b b' =>
      cases b'; cases a; cases b
      exact ⟨i, j, rfl, ⟨by omega, by omega, by omega, by omega⟩, k _ _ _ F1 m1 H1 e1 c1 yl_rng True.intro q⟩
/-- enumerate: pairs of place and item -/
def enS (ds : List PyData) : List S := ds.zipIdx.map fun p => S.d (.tuple [.int (p.2 : Nat), p.1])
theorem enS_len {ds : List PyData} : (enS ds).length = ds.length := by simp [enS]
theorem enS_get {ds : List PyData} {i : Nat} {x : S} (h : (enS ds)[i]? = some x) : ∃ d, ds[i]? = some d ∧ x = .d (.tuple [.int (i : Nat), d]) := (by
  unfold enS at h
  rw [List.getElem?_map, List.getElem?_zipIdx] at h
  cases e : ds[i]? with
  | none => rw [e] at h; cases h
  | some d => rw [e] at h; simp at h; exact ⟨d, rfl, h.symm⟩)
theorem yl_enum {F : Hp} {a : Addr} {xs : List V} {ds : List PyData} (h1 : SqL K F a xs) (h2 : DqAll K F xs ds) : Yl K (Ite K a) F G0 (enS ds) where
  at_ := fun i d F' m' R H' hd e c _ => by
    obtain ⟨d0, hd', rfl⟩ := enS_get hd
    obtain ⟨v, hv, hp⟩ := dpa_get h2 hd'
    have hs : SqL K H' a xs := (e.trans (cn_sub c)).seq h1
    refine ⟨⟨xs, v, hs, hv⟩, fun x H2 ⟨T, y, ex, hT, eH, hx⟩ => ?_⟩
    subst ex; subst eH
    have := hx xs hs
    rw [hv] at this; cases this
    have hf := (cn_fresh c hT).1
    refine ⟨upd F' T (.tup [.int (i : Nat), v]), same_new hf, cn_newF c hT, Dq.tup upd_same (.cons (.int _) (.cons (dp_mono (e.trans (same_new hf)) hp) .nil))⟩
  stop := fun F' m' R H' e c _ => ⟨xs, (e.trans (cn_sub c)).seq h1, by rw [enS_len, dpa_len h2]; exact Nat.le_refl _⟩
theorem ari_enum {ta : TA} (h : ARA K ta Γ m fun xs m1 => ∃ ds, xs = [.d (.list ds)] ∧ Z (enS ds) G0 m1) : ARI K (iEnum K ta) Γ m Z := fun σ F R H R' g c k =>
  h σ F R H _ g c fun vs xs F1 m1 H1 e1 c1 r1 q1 => by
    obtain ⟨ds, rfl, q⟩ := q1
    cases r1 with
    | cons ra b =>
      cases b
      obtain ⟨a, xs, rfl, h1, h2⟩ := dp_list ra
      exact ⟨a, xs, rfl, (cn_sub c1).seq h1, k _ _ _ F1 m1 H1 e1 c1 (yl_enum h1 h2) True.intro q⟩
def zpS (ds es : List PyData) : List S := (ds.zip es).map fun p => S.d (.tuple [p.1, p.2])
theorem zpS_get {ds es : List PyData} {i : Nat} {x : S} (h : (zpS ds es)[i]? = some x) : ∃ d e, ds[i]? = some d ∧ es[i]? = some e ∧ x = .d (.tuple [d, e]) := (by
  unfold zpS at h
  rw [List.getElem?_map] at h
  cases e : (ds.zip es)[i]? with
  | none => rw [e] at h; cases h
  | some p =>
    rw [e] at h; cases h
    obtain ⟨a, b⟩ := p
    have := List.getElem?_zip_eq_some.mp e
    exact ⟨a, b, this.1, this.2, rfl⟩)
theorem yl_zip {F : Hp} {a b : Addr} {xs ys : List V} {ds es : List PyData} (h1 : SqL K F a xs) (h2 : DqAll K F xs ds) (h3 : SqL K F b ys) (h4 : DqAll K F ys es) : Yl K (Itz K a b) F G0 (zpS ds es) where
  at_ := fun i d F' m' R H' hd e c _ => by
    obtain ⟨d0, e0, hd', he', rfl⟩ := zpS_get hd
    obtain ⟨v, hv, hp⟩ := dpa_get h2 hd'
    obtain ⟨u, hu, hq⟩ := dpa_get h4 he'
    have hs : SqL K H' a xs := (e.trans (cn_sub c)).seq h1
    have ht : SqL K H' b ys := (e.trans (cn_sub c)).seq h3
    refine ⟨⟨xs, ys, v, u, hs, ht, hv, hu⟩, fun x H2 ⟨T, y, z, ex, hT, eH, hx, hz⟩ => ?_⟩
    subst ex; subst eH
    have := hx xs hs
    rw [hv] at this; cases this
    have := hz ys ht
    rw [hu] at this; cases this
    have hf := (cn_fresh c hT).1
    refine ⟨upd F' T (.tup [v, u]), same_new hf, cn_newF c hT, Dq.tup upd_same (.cons (dp_mono (e.trans (same_new hf)) hp) (.cons (dp_mono (e.trans (same_new hf)) hq) .nil))⟩
  stop := fun F' m' R H' e c _ => ⟨xs, ys, (e.trans (cn_sub c)).seq h1, (e.trans (cn_sub c)).seq h3, by
    have e1 := dpa_len h2
    have e2 := dpa_len h4
    unfold zpS
    rw [List.length_map, List.length_zip]
    omega⟩
theorem ari_zip {ta : TA} (h : ARA K ta Γ m fun xs m1 => ∃ ds es, xs = [.d (.list ds), .d (.list es)] ∧ Z (zpS ds es) G0 m1) : ARI K (iZip K ta) Γ m Z := fun σ F R H R' g c k =>
  h σ F R H _ g c fun vs xs F1 m1 H1 e1 c1 r1 q1 => by
    obtain ⟨ds, es, rfl, q⟩ := q1
    cases r1 with
    | cons ra b =>
      cases b with
      | cons rb b' =>
      cases b'
      obtain ⟨a, xs, rfl, h1, h2⟩ := dp_list ra
      obtain ⟨b, ys, rfl, h3, h4⟩ := dp_list rb
      exact ⟨a, b, xs, ys, rfl, (cn_sub c1).seq h1, (cn_sub c1).seq h3, k _ _ _ F1 m1 H1 e1 c1 (yl_zip h1 h2 h3 h4) True.intro q⟩
theorem yl_rev {F : Hp} {a : Addr} {xs : List V} {ds : List PyData} (h1 : SqL K F a xs) (h2 : DqAll K F xs ds) : Yl K (Itv K a xs.length) F G0 (ds.reverse.map S.d) where
  at_ := fun i d F' m' R H' hd e c _ => by
    have hl := dpa_len h2
    have hi : i < ds.length := by
      have := (List.getElem?_eq_some_iff.mp hd).1
      simpa using this
    rw [List.getElem?_map, List.getElem?_reverse hi] at hd
    cases hd' : ds[ds.length - 1 - i]? with
    | none => rw [hd'] at hd; cases hd
    | some d0 =>
      rw [hd'] at hd; cases hd
      obtain ⟨v, hv, hp⟩ := dpa_get h2 hd'
      have hs : SqL K H' a xs := (e.trans (cn_sub c)).seq h1
      rw [← hl] at hv
      refine ⟨⟨by omega, xs, v, hs, hv⟩, fun x H2 ⟨e2, hx⟩ => ?_⟩
      subst e2
      have := hx xs hs
      rw [hv] at this; cases this
      exact ⟨F', Same.refl F', c, dp_mono e hp⟩
  stop := fun F' m' R H' e c _ => by
    have hl := dpa_len h2
    show xs.length ≤ _
    rw [List.length_map, List.length_reverse]
    omega
theorem ari_rev {ta : TA} (h : ARA K ta Γ m fun xs m1 => ∃ ds, xs = [.d (.list ds)] ∧ Z (ds.reverse.map S.d) G0 m1) : ARI K (iRev K ta) Γ m Z := fun σ F R H R' g c k =>
  h σ F R H _ g c fun vs xs F1 m1 H1 e1 c1 r1 q1 => by
    obtain ⟨ds, rfl, q⟩ := q1
    cases r1 with
    | cons ra b =>
      cases b
      obtain ⟨a, xs, rfl, h1, h2⟩ := dp_list ra
      exact ⟨a, xs, rfl, (cn_sub c1).seq h1, k _ _ _ F1 m1 H1 e1 c1 (yl_rev h1 h2) True.intro q⟩
end
end DL

namespace DL
open PySem PySem.Spec PyProof.Rows L2

section
variable {K : PySem.W.Frag} {Γ : Sl} {m : Mem} {Q : S → Mem → Prop} {x y : S} {r r' : R2}
/-! disjunctions -/
theorem lo_l (h : LO K r x y m Q) : LO K (fun x y H Q => r x y H Q ∨ r' x y H Q) x y m Q := fun v u F R H Q' a b c k => .inl (h v u F R H Q' a b c k)
theorem lo_r (h : LO K r' x y m Q) : LO K (fun x y H Q => r x y H Q ∨ r' x y H Q) x y m Q := fun v u F R H Q' a b c k => .inr (h v u F R H Q' a b c k)
theorem lb_l {r r' : List V → Hp → VK → Prop} {xs : List S} (h : LB K r xs m Q) : LB K (fun xs H Q => r xs H Q ∨ r' xs H Q) xs m Q := fun v F R H Q' a c k => .inl (h v F R H Q' a c k)
theorem lb_r {r r' : List V → Hp → VK → Prop} {xs : List S} (h : LB K r' xs m Q) : LB K (fun xs H Q => r xs H Q ∨ r' xs H Q) xs m Q := fun v F R H Q' a c k => .inr (h v F R H Q' a c k)
theorem ls_l {r r' : V → Option Int → Option Int → Hp → VK → Prop} {lo hi : Option Int} (h : LS K r x lo hi m Q) : LS K (fun x lo hi H Q => r x lo hi H Q ∨ r' x lo hi H Q) x lo hi m Q := fun v F R H Q' a c k => .inl (h v F R H Q' a c k)
theorem ls_r {r r' : V → Option Int → Option Int → Hp → VK → Prop} {lo hi : Option Int} (h : LS K r' x lo hi m Q) : LS K (fun x lo hi H Q => r x lo hi H Q ∨ r' x lo hi H Q) x lo hi m Q := fun v F R H Q' a c k => .inr (h v F R H Q' a c k)
theorem lm_l {r r' : V → List V → Hp → VK → Prop} {xs : List S} (h : LM K r x xs m Q) : LM K (fun x xs H Q => r x xs H Q ∨ r' x xs H Q) x xs m Q := fun v vs F R H Q' a b c k => .inl (h v vs F R H Q' a b c k)
theorem lm_r {r r' : V → List V → Hp → VK → Prop} {xs : List S} (h : LM K r' x xs m Q) : LM K (fun x xs H Q => r x xs H Q ∨ r' x xs H Q) x xs m Q := fun v vs F R H Q' a b c k => .inr (h v vs F R H Q' a b c k)
/-! ints -/
theorem lo_i0 {g : Int → Int → Int} {i j : Int} (q : Q (.d (.int (g i j))) m) : LO K (rI0 fun i j => .int (g i j)) (.d (.int i)) (.d (.int j)) m Q := fun v u F R H Q' a b c k => by
  cases a; cases b
  exact ⟨i, j, rfl, rfl, k _ (.d (.int (g i j))) F m H (Same.refl F) c (Dq.int _) q⟩
theorem lo_i {C : Int → Int → Prop} {g : Int → Int → Int} {i j : Int} (hc : C i j) (q : Q (.d (.int (g i j))) m) : LO K (rI C fun i j => .int (g i j)) (.d (.int i)) (.d (.int j)) m Q := fun v u F R H Q' a b c k => by
  cases a; cases b
  exact ⟨i, j, rfl, rfl, hc, k _ (.d (.int (g i j))) F m H (Same.refl F) c (Dq.int _) q⟩
theorem lo_b0 {g : Int → Int → Bool} {i j : Int} (q : Q (.d (.bool (g i j))) m) : LO K (rI0 fun i j => .bl (g i j)) (.d (.int i)) (.d (.int j)) m Q := fun v u F R H Q' a b c k => by
  cases a; cases b
  exact ⟨i, j, rfl, rfl, k _ (.d (.bool (g i j))) F m H (Same.refl F) c (Dq.bl _) q⟩
theorem lo_ip {f : Int → Int → Int} {i j : Int} (q : Q (.d (.int (f i j))) m) : LO K (ipI f) (.d (.int i)) (.d (.int j)) m Q := fun v u F R H Q' a b c k => by
  cases a; cases b
  exact ⟨i, j, rfl, rfl, k _ (.d (.int (f i j))) F m H (Same.refl F) c (Dq.int _) q⟩
theorem lu_i {g : Int → Int} {i : Int} (q : Q (.d (.int (g i))) m) : LU K (rU fun i => .int (g i)) (.d (.int i)) m Q := fun v F R H Q' a c k => by
  cases a
  exact ⟨i, rfl, k _ (.d (.int (g i))) F m H (Same.refl F) c (Dq.int _) q⟩
/-! + -/
def rAddS : R2 := fun x y H Q => ∃ i j, x = .str i ∧ y = .str j ∧ i.length + j.length ≤ sizeLine ∧ Q (.str (i ++ j)) H
def rAddI : R2 := rI0 fun i j => .int (i + j)
def rPlus (K : PySem.W.Frag) : R2 := fun x y H Q => rAddI x y H Q ∨ rAddS x y H Q ∨ rCat x y H Q ∨ rCatT K x y H Q
theorem op_plus {X : Cx} : OpR X (binaryOp .Add) (rPlus X.K) := op_add.or (OpR.or (r := rAddS) op_add_str (op_cat.or op_catT))
theorem plus_i {i j : Int} (q : Q (.d (.int (i + j))) m) : LO K (rPlus K) (.d (.int i)) (.d (.int j)) m Q := lo_l (r := rAddI) (lo_i0 q)
theorem plus_s {i j : Str} (hl : i.length + j.length ≤ 1000000) (q : Q (.d (.str (i ++ j))) m) : LO K (rPlus K) (.d (.str i)) (.d (.str j)) m Q := lo_r (lo_l fun v u F R H Q' a b c k => by
  cases a; cases b
  exact ⟨i, j, rfl, rfl, sz_ok hl, k _ (.d (.str (i ++ j))) F m H (Same.refl F) c (Dq.str _) q⟩)
theorem dqa_app {F : Hp} : ∀ {vs us : List V} {ds es : List PyData}, DqAll K F vs ds → DqAll K F us es → DqAll K F (vs ++ us) (ds ++ es)
  | _, _, _, _, .nil, h => h
  | _, _, _, _, .cons a b, h => .cons a (dqa_app b h)
/-- a new list out of data: frozen, owned -/
theorem new_D {F R H : Hp} {m : Mem} {p : Addr} {vs : List V} {ds : List PyData} {Q' : VK} (c : Cn K m F R H) (hp : H p = none) (hd : DqAll K F vs ds) (k : ∀ v x F' m' H', Same F F' → Cn K m' F' R H' → RS K F' v x → Q x m' → Q' v H') (q : Q (.d (.list ds)) m) : Q' (.ref p) (upd H p (.lst vs)) :=
  k _ (.d (.list ds)) _ m _ (same_new (cn_fresh c hp).1) (cn_newF c hp) (Dq.lst upd_same (dpa_mono (same_new (cn_fresh c hp).1) hd)) q
theorem new_T {F R H : Hp} {m : Mem} {p : Addr} {vs : List V} {ds : List PyData} {Q' : VK} (c : Cn K m F R H) (hp : H p = none) (hd : DqAll K F vs ds) (k : ∀ v x F' m' H', Same F F' → Cn K m' F' R H' → RS K F' v x → Q x m' → Q' v H') (q : Q (.d (.tuple ds)) m) : Q' (.ref p) (upd H p (.tup vs)) :=
  k _ (.d (.tuple ds)) _ m _ (same_new (cn_fresh c hp).1) (cn_newF c hp) (Dq.tup upd_same (dpa_mono (same_new (cn_fresh c hp).1) hd)) q
theorem new_O {F R H : Hp} {m : Mem} {p : Addr} {vs : List V} {xs : List S} {Q' : VK} (c : Cn K m F R H) (hp : H p = none) (hd : RSs K F vs xs) (k : ∀ v x F' m' H', Same F F' → Cn K m' F' R H' → RS K F' v x → Q x m' → Q' v H') (q : ∀ p, m p = none → Q (.r p) (mset m p (.lst xs))) : Q' (.ref p) (upd H p (.lst vs)) :=
  k _ (.r p) F (mset m p (.lst xs)) _ (Same.refl F) (cn_newO (o := .lst vs) (x := .lst xs) c hp hd) rfl (q p (cn_fresh c hp).2.1)
theorem plus_l {ds es : List PyData} (hl : ds.length + es.length ≤ 1000000) (q : Q (.d (.list (ds ++ es))) m) : LO K (rPlus K) (.d (.list ds)) (.d (.list es)) m Q := lo_r (lo_r (lo_l fun v u F R H Q' a b c k => by
  obtain ⟨p, vs, rfl, h1, h2⟩ := dp_listH a
  obtain ⟨p', us, rfl, h3, h4⟩ := dp_listH b
  refine ⟨p, p', vs, us, rfl, rfl, cn_sub c _ _ h1, cn_sub c _ _ h3, by rw [dpa_len h2, dpa_len h4]; exact sz_ok hl, fun l hl => new_D c hl (dqa_app h2 h4) k q⟩))
/-- .. whose result is owned -/
theorem plus_lO {ds es : List PyData} (hl : ds.length + es.length ≤ 1000000) (q : ∀ p, m p = none → Q (.r p) (mset m p (.lst ((ds ++ es).map S.d)))) : LO K (rPlus K) (.d (.list ds)) (.d (.list es)) m Q := lo_r (lo_r (lo_l fun v u F R H Q' a b c k => by
  obtain ⟨p, vs, rfl, h1, h2⟩ := dp_listH a
  obtain ⟨p', us, rfl, h3, h4⟩ := dp_listH b
  refine ⟨p, p', vs, us, rfl, rfl, cn_sub c _ _ h1, cn_sub c _ _ h3, by rw [dpa_len h2, dpa_len h4]; exact sz_ok hl, fun l hl => new_O c hl (dpa_rss (dqa_app h2 h4)) k q⟩))
theorem plus_t {ds es : List PyData} (hn : ds ≠ []) (hl : ds.length + es.length ≤ 1000000) (q : Q (.d (.tuple (ds ++ es))) m) : LO K (rPlus K) (.d (.tuple ds)) (.d (.tuple es)) m Q := lo_r (lo_r (lo_r fun v u F R H Q' a b c k => by
  obtain ⟨p, vs, rfl, h1, h2⟩ := dp_tup a
  obtain ⟨p', us, rfl, h3, h4⟩ := dp_tup b
  refine ⟨p, p', vs, us, rfl, rfl, same_sqt (cn_sub c) h1, same_sqt (cn_sub c) h3, fun e => ?_, by rw [dpa_len h2, dpa_len h4]; exact sz_ok hl, fun e => ?_, fun _ l hl => new_T c hl (dqa_app h2 h4) k q⟩
  · subst e; cases h2; exact hn rfl
  · subst e; cases h4
    rw [List.append_nil] at q
    exact k _ (.d (.tuple ds)) F m H (Same.refl F) c a q))
/-! - * // % ** | -/
def rTimes (K : PySem.W.Frag) : R2 := fun x y H Q => rI CMul (fun i j => .int (i * j)) x y H Q ∨ rI CMulW (fun i j => .int (i * j)) x y H Q
theorem op_times {X : Cx} : OpR X (binaryOp .Mult) (rTimes X.K) := op_mul.or op_mulW
theorem times_a {i j : Int} (h1 : -18446744073709551616 < i) (h2 : i < 18446744073709551616) (q : Q (.d (.int (i * j))) m) : LO K (rTimes K) (.d (.int i)) (.d (.int j)) m Q := lo_l (lo_i (g := fun i j => i * j) (.inl ⟨by omega, by omega⟩) q)
theorem times_b {i j : Int} (h1 : -18446744073709551616 < j) (h2 : j < 18446744073709551616) (q : Q (.d (.int (i * j))) m) : LO K (rTimes K) (.d (.int i)) (.d (.int j)) m Q := lo_l (lo_i (g := fun i j => i * j) (.inr ⟨by omega, by omega⟩) q)
theorem times_w {i j : Int} (h : CMulW i j) (q : Q (.d (.int (i * j))) m) : LO K (rTimes K) (.d (.int i)) (.d (.int j)) m Q := lo_r (lo_i (g := fun i j => i * j) h q)
def rFdiv (K : PySem.W.Frag) : R2 := fun x y H Q => rI CDiv (fun i j => .int (i / j)) x y H Q ∨ rI CDivW (fun i j => .int (i / j)) x y H Q
theorem op_fdivs {X : Cx} : OpR X (binaryOp .FloorDiv) (rFdiv X.K) := op_fdiv.or op_fdivW
theorem fdiv_s {i j : Int} (h1 : 0 < j) (h2 : j < 1073741824) (q : Q (.d (.int (i / j))) m) : LO K (rFdiv K) (.d (.int i)) (.d (.int j)) m Q := lo_l (lo_i (g := fun i j => i / j) ⟨h1, h2⟩ q)
theorem mod_s {i j : Int} (h1 : 0 < j) (q : Q (.d (.int (i % j))) m) : LO K (rI (fun _ j => 0 < j) fun i j => .int (i % j)) (.d (.int i)) (.d (.int j)) m Q := lo_i (g := fun i j => i % j) h1 q
theorem pow_s {i j : Int} (h0 : 0 ≤ j) (h1 : j ≤ 1000000) (h2 : i.natAbs < 2 ^ 64) (q : Q (.d (.int (i ^ j.toNat))) m) : LO K (rI CPow fun i j => .int (i ^ j.toNat)) (.d (.int i)) (.d (.int j)) m Q := lo_i (g := fun i j => i ^ j.toNat) ⟨h0, h1, h2⟩ q
/-! == != is in -/
def rEQ (K : PySem.W.Frag) : R2 := fun x y H Q => rEq x y H Q ∨ rEqD K x y H Q
def rNE (K : PySem.W.Frag) : R2 := fun x y H Q => rNe x y H Q ∨ rNeD K x y H Q
theorem op_EQ {X : Cx} (hu : X.A.units + 64 < cLine) : OpR X (compareOp .Eq) (rEQ X.K) := op_eq.or (op_eqD hu)
theorem op_NE {X : Cx} (hu : X.A.units + 64 < cLine) : OpR X (compareOp .NotEq) (rNE X.K) := op_ne.or (op_neD hu)
theorem eq_i {i j : Int} (q : Q (.d (.bool (decide (i = j)))) m) : LO K (rEQ K) (.d (.int i)) (.d (.int j)) m Q := lo_l fun v u F R H Q' a b c k => by
  cases a; cases b
  refine ⟨rfl, k _ (.d (.bool (decide (i = j)))) F m H (Same.refl F) c ?_ q⟩
  rw [show decide (V.int i = V.int j) = decide (i = j) by simp]
  exact Dq.bl _
theorem ne_i {i j : Int} (q : Q (.d (.bool (!decide (i = j)))) m) : LO K (rNE K) (.d (.int i)) (.d (.int j)) m Q := lo_l fun v u F R H Q' a b c k => by
  cases a; cases b
  refine ⟨rfl, k _ (.d (.bool (!decide (i = j)))) F m H (Same.refl F) c ?_ q⟩
  rw [show decide (V.int i = V.int j) = decide (i = j) by simp]
  exact Dq.bl _
theorem eq_s {i j : Str} (q : Q (.d (.bool (decide (i = j)))) m) : LO K (rEQ K) (.d (.str i)) (.d (.str j)) m Q := lo_l fun v u F R H Q' a b c k => by
  cases a; cases b
  refine ⟨rfl, k _ (.d (.bool (decide (i = j)))) F m H (Same.refl F) c ?_ q⟩
  rw [show decide (V.str i = V.str j) = decide (i = j) by simp]
  exact Dq.bl _
theorem ne_s {i j : Str} (q : Q (.d (.bool (!decide (i = j)))) m) : LO K (rNE K) (.d (.str i)) (.d (.str j)) m Q := lo_l fun v u F R H Q' a b c k => by
  cases a; cases b
  refine ⟨rfl, k _ (.d (.bool (!decide (i = j)))) F m H (Same.refl F) c ?_ q⟩
  rw [show decide (V.str i = V.str j) = decide (i = j) by simp]
  exact Dq.bl _
theorem eq_b {i j : Bool} (q : Q (.d (.bool (decide (i = j)))) m) : LO K (rEQ K) (.d (.bool i)) (.d (.bool j)) m Q := lo_l fun v u F R H Q' a b c k => by
  cases a; cases b
  refine ⟨rfl, k _ (.d (.bool (decide (i = j)))) F m H (Same.refl F) c ?_ q⟩
  rw [show decide (V.bl i = V.bl j) = decide (i = j) by simp]
  exact Dq.bl _
theorem ne_b {i j : Bool} (q : Q (.d (.bool (!decide (i = j)))) m) : LO K (rNE K) (.d (.bool i)) (.d (.bool j)) m Q := lo_l fun v u F R H Q' a b c k => by
  cases a; cases b
  refine ⟨rfl, k _ (.d (.bool (!decide (i = j)))) F m H (Same.refl F) c ?_ q⟩
  rw [show decide (V.bl i = V.bl j) = decide (i = j) by simp]
  exact Dq.bl _
theorem sh_cl {d : PyData} (h : SeqAt.shaped d = true) : d.canLay0 = true := (by
  unfold SeqAt.shaped at h
  simp at h
  exact h.1)
theorem eq_d {d e : PyData} (h1 : SeqAt.shaped d = true) (h2 : SeqAt.shaped e = true) (q : Q (.d (.bool (PyData.eqv d e))) m) : LO K (rEQ K) (.d d) (.d e) m Q := lo_r fun v u F R H Q' a b c k =>
  ⟨d, e, dq_dp (sh_cl h1) (dp_mono (cn_sub c) a), dq_dp (sh_cl h2) (dp_mono (cn_sub c) b), h1, h2, k _ (.d (.bool (PyData.eqv d e))) F m H (Same.refl F) c (Dq.bl _) q⟩
theorem ne_d {d e : PyData} (h1 : SeqAt.shaped d = true) (h2 : SeqAt.shaped e = true) (q : Q (.d (.bool (!PyData.eqv d e))) m) : LO K (rNE K) (.d d) (.d e) m Q := lo_r fun v u F R H Q' a b c k =>
  ⟨d, e, dq_dp (sh_cl h1) (dp_mono (cn_sub c) a), dq_dp (sh_cl h2) (dp_mono (cn_sub c) b), h1, h2, k _ (.d (.bool (!PyData.eqv d e))) F m H (Same.refl F) c (Dq.bl _) q⟩
/-! is None, is True -/
def rISN : R2 := fun x y H Q => y = .non ∧ Q (.bl (decide (x = .non))) H
def rNSN : R2 := fun x y H Q => y = .non ∧ Q (.bl (!decide (x = .non))) H
def rIS : R2 := fun x y H Q => rISN x y H Q ∨ rIsB x y H Q
def rISNOT : R2 := fun x y H Q => rNSN x y H Q ∨ rNotB x y H Q
theorem op_IS {X : Cx} : OpR X (compareOp .Is) rIS := OpR.or (r := rISN) op_isN op_isBl
theorem op_ISNOT {X : Cx} : OpR X (compareOp .IsNot) rISNOT := OpR.or (r := rNSN) op_notN op_notBl
def isNone : PyData → Bool
  | .none => true
  | _ => false
theorem dq_non {F : Hp} {v : V} {d : PyData} (h : Dq K F v d) : decide (v = .non) = isNone d := (by
  cases h <;> rfl)
theorem is_non {d : PyData} (q : Q (.d (.bool (isNone d))) m) : LO K rIS (.d d) (.d .none) m Q := lo_l fun v u F R H Q' a b c k => by
  cases b
  refine ⟨rfl, k _ (.d (.bool (isNone d))) F m H (Same.refl F) c ?_ q⟩
  rw [dq_non a]; exact Dq.bl _
theorem isnot_non {d : PyData} (q : Q (.d (.bool (!isNone d))) m) : LO K rISNOT (.d d) (.d .none) m Q := lo_l fun v u F R H Q' a b c k => by
  cases b
  refine ⟨rfl, k _ (.d (.bool (!isNone d))) F m H (Same.refl F) c ?_ q⟩
  rw [dq_non a]; exact Dq.bl _
theorem is_b {i j : Bool} (q : Q (.d (.bool (decide (i = j)))) m) : LO K rIS (.d (.bool i)) (.d (.bool j)) m Q := lo_r fun v u F R H Q' a b c k => by
  cases a; cases b
  exact ⟨i, j, rfl, rfl, k _ (.d (.bool (decide (i = j)))) F m H (Same.refl F) c (Dq.bl _) q⟩
theorem isnot_b {i j : Bool} (q : Q (.d (.bool (!decide (i = j)))) m) : LO K rISNOT (.d (.bool i)) (.d (.bool j)) m Q := lo_r fun v u F R H Q' a b c k => by
  cases a; cases b
  exact ⟨i, j, rfl, rfl, k _ (.d (.bool (!decide (i = j)))) F m H (Same.refl F) c (Dq.bl _) q⟩
/-! in -/
def rDIn : R2 := fun y x H Q => ∃ a o, x = .ref a ∧ DGet H a y o ∧ Q (.bl o.isSome) H
def rDNotIn : R2 := fun y x H Q => ∃ a o, x = .ref a ∧ DGet H a y o ∧ Q (.bl (!o.isSome)) H
theorem op_din {X : Cx} (hu : X.A.units + 1 < cLine) : OpR X (compareOp .In) rDIn := (by
  intro pins s σ H x y v u Q I rx ry h
  obtain ⟨a, o, rfl, g, q⟩ := h
  obtain rfl : u = Value.ref a := ry
  exact d_in hu I g rx fun s3 I3 => ⟨.bl o.isSome, H, I3, rfl, q⟩)
theorem op_dnotin {X : Cx} (hu : X.A.units + 1 < cLine) : OpR X (compareOp .NotIn) rDNotIn := (by
  intro pins s σ H x y v u Q I rx ry h
  obtain ⟨a, o, rfl, g, q⟩ := h
  obtain rfl : u = Value.ref a := ry
  exact d_notIn hu I g rx fun s3 I3 => ⟨.bl (!o.isSome), H, I3, rfl, q⟩)
def rSgIn : R2 := fun x y H Q => ∃ (c : Nat) (z : Str), x = .str ⟨#[c]⟩ ∧ y = .str z ∧ Q (.bl (decide (c ∈ z.cps.toList))) H
def rINS (K : PySem.W.Frag) : R2 := fun x y H Q => rInD K x y H Q ∨ rIn K false x y H Q ∨ rDIn x y H Q ∨ rSgIn x y H Q
theorem op_INS {X : Cx} (hu : X.A.units + 65 < cLine) : OpR X (compareOp .In) (rINS X.K) := (op_inD hu).or (op_in_seq.or ((op_din (by omega)).or (r' := rSgIn) op_in_sign))
def rNINS (K : PySem.W.Frag) : R2 := fun x y H Q => rNotInD K x y H Q ∨ rIn K true x y H Q ∨ rDNotIn x y H Q
theorem op_NINS {X : Cx} (hu : X.A.units + 65 < cLine) : OpR X (compareOp .NotIn) (rNINS X.K) := (op_notInD hu).or (op_notIn_seq.or (op_dnotin (by omega)))
theorem in_d {d : PyData} {ds : List PyData} (h1 : SeqAt.shaped d = true) (h2 : SeqAt.shaped (.list ds) = true) (q : Q (.d (.bool (ds.any fun z => PyData.eqv z d))) m) : LO K (rINS K) (.d d) (.d (.list ds)) m Q := lo_l fun v u F R H Q' a b c k =>
  ⟨d, ds, dq_dp (sh_cl h1) (dp_mono (cn_sub c) a), dq_dp (sh_cl h2) (dp_mono (cn_sub c) b), h1, h2, k _ (.d (.bool (ds.any fun z => PyData.eqv z d))) F m H (Same.refl F) c (Dq.bl _) q⟩
theorem notin_d {d : PyData} {ds : List PyData} (h1 : SeqAt.shaped d = true) (h2 : SeqAt.shaped (.list ds) = true) (q : Q (.d (.bool (!ds.any fun z => PyData.eqv z d))) m) : LO K (rNINS K) (.d d) (.d (.list ds)) m Q := lo_l fun v u F R H Q' a b c k =>
  ⟨d, ds, dq_dp (sh_cl h1) (dp_mono (cn_sub c) a), dq_dp (sh_cl h2) (dp_mono (cn_sub c) b), h1, h2, k _ (.d (.bool (!ds.any fun z => PyData.eqv z d))) F m H (Same.refl F) c (Dq.bl _) q⟩
theorem ints_of {F : Hp} : ∀ {vs : List V} {ns : List Int}, DqAll K F vs (ns.map PyData.int) → vs = ns.map V.int
  | [], [], .nil => rfl
  | _ :: _, n :: ns, .cons h hs => by
    cases h
    rw [ints_of hs]; rfl
theorem bools_of {F : Hp} : ∀ {vs : List V} {ns : List Bool}, DqAll K F vs (ns.map PyData.bool) → vs = ns.map V.bl
  | [], [], .nil => rfl
  | _ :: _, n :: ns, .cons h hs => by
    cases h
    rw [bools_of hs]; rfl
theorem strs_of {F : Hp} : ∀ {vs : List V} {ns : List Str}, DqAll K F vs (ns.map PyData.str) → vs = ns.map V.str
  | [], [], .nil => rfl
  | _ :: _, n :: ns, .cons h hs => by
    cases h
    rw [strs_of hs]; rfl
theorem flat_ints (ns : List Int) : (ns.map V.int).all flatV = true := (by
  rw [List.all_map]; exact List.all_eq_true.mpr fun _ _ => rfl)
theorem inV_ints (i : Int) (ns : List Int) : inV (.int i) (ns.map V.int) = decide (i ∈ ns) := (by
  unfold inV
  rw [List.any_map]
  induction ns with
  | nil => rfl
  | cons n ns ih =>
    rw [List.any_cons, ih]
    show ((n == i) || _) = _
    by_cases e : n = i
    · subst e; simp
    · have e' : ¬ i = n := fun h => e h.symm
      simp [e, e'])
/-- of ints, no bounds asked -/
theorem in_is {i : Int} {ns : List Int} (q : Q (.d (.bool (decide (i ∈ ns)))) m) : LO K (rINS K) (.d (.int i)) (.d (.list (ns.map PyData.int))) m Q := lo_r (lo_l fun v u F R H Q' a b c k => by
  obtain ⟨p, vs, rfl, h1, h2⟩ := dp_list b
  have e := ints_of h2
  subst e
  cases a
  refine ⟨p, _, rfl, .inl ((cn_sub c).seq h1), rfl, flat_ints ns, k _ (.d (.bool (decide (i ∈ ns)))) F m H (Same.refl F) c ?_ q⟩
  show Dq K F (.bl (inV (.int i) (ns.map V.int))) _
  rw [inV_ints]; exact Dq.bl _)
theorem notin_is {i : Int} {ns : List Int} (q : Q (.d (.bool (!decide (i ∈ ns)))) m) : LO K (rNINS K) (.d (.int i)) (.d (.list (ns.map PyData.int))) m Q := lo_r (lo_l fun v u F R H Q' a b c k => by
  obtain ⟨p, vs, rfl, h1, h2⟩ := dp_list b
  have e := ints_of h2
  subst e
  cases a
  refine ⟨p, _, rfl, .inl ((cn_sub c).seq h1), rfl, flat_ints ns, k _ (.d (.bool (!decide (i ∈ ns)))) F m H (Same.refl F) c ?_ q⟩
  show Dq K F (.bl (!inV (.int i) (ns.map V.int))) _
  rw [inV_ints]; exact Dq.bl _)
/-! len -/
def rLen (K : PySem.W.Frag) : List V → Hp → VK → Prop := fun xs H Q => (∃ x n, xs = [x] ∧ LenV K x H n ∧ Q (.int n) H)
theorem cr_len {X : Cx} : CallR X (.builtin "len") (rLen X.K) := call_len
theorem len_l {ds : List PyData} (q : Q (.d (.int (ds.length : Nat))) m) : LB K (rLen K) [.d (.list ds)] m Q := fun vs F R H Q' a c k => by
  cases a with
  | cons a b =>
    cases b
    obtain ⟨p, vs, rfl, h1, h2⟩ := dp_list a
    refine ⟨.ref p, ds.length, rfl, .inl ⟨vs, (cn_sub c).seq h1, (dpa_len h2).symm⟩, k _ (.d (.int ds.length)) F m H (Same.refl F) c (Dq.int _) q⟩
theorem len_t {ds : List PyData} (q : Q (.d (.int (ds.length : Nat))) m) : LB K (rLen K) [.d (.tuple ds)] m Q := fun vs F R H Q' a c k => by
  cases a with
  | cons a b =>
    cases b
    obtain ⟨p, vs, rfl, h1, h2⟩ := dp_tup a
    refine ⟨.ref p, ds.length, rfl, .inr ⟨vs, same_sqt (cn_sub c) h1, (dpa_len h2).symm⟩, k _ (.d (.int ds.length)) F m H (Same.refl F) c (Dq.int _) q⟩
theorem len_s {z : Str} (hl : z.length ≤ 1000000) (q : Q (.d (.int (z.length : Nat))) m) : LB K (rLen K) [.d (.str z)] m Q := fun vs F R H Q' a c k => by
  cases a with
  | cons a b =>
    cases b
    cases a
    exact ⟨.str z, z.length, rfl, ⟨sz_ok hl, rfl⟩, k _ (.d (.int z.length)) F m H (Same.refl F) c (Dq.int _) q⟩
theorem len_o {a : Addr} {xs : List S} (hm : m a = some (.lst xs)) (q : Q (.d (.int (xs.length : Nat))) m) : LB K (rLen K) [.r a] m Q := fun vs F R H Q' h c k => by
  cases h with
  | cons h b =>
    cases b
    cases h
    obtain ⟨vs, hv, rv⟩ := own_lst c hm
    exact ⟨.ref a, xs.length, rfl, .inl ⟨vs, .inl (.inl hv), (pr_len rv).symm⟩, k _ (.d (.int xs.length)) F m H (Same.refl F) c (Dq.int _) q⟩
theorem len_scr {ns : List Int} (q : Q (.d (.int (ns.length : Nat))) m) : LB K (rLen K) [.scr ns] m Q := fun vs F R H Q' h c k => by
  cases h with
  | cons h b =>
    cases b
    obtain ⟨a, rfl, hs⟩ := h
    exact ⟨.ref a, ns.length, rfl, .inl ⟨_, (cn_sub c).seq hs, by simp⟩, k _ (.d (.int ns.length)) F m H (Same.refl F) c (Dq.int _) q⟩
/-! subscripts -/
def rIX (K : PySem.W.Frag) : R2 := fun x y H Q => rIxL K x y H Q ∨ rIxT K x y H Q ∨ rIxS x y H Q
theorem ix_all {X : Cx} : IxR X (rIX X.K) := ix_list.or (ix_tup.or ix_str)
theorem dqa_at {F : Hp} {vs : List V} {ds : List PyData} {i : Int} {d : PyData} (h : DqAll K F vs ds) (e : atI ds i = some d) : ∃ v, atI vs i = some v ∧ Dq K F v d := (by
  unfold atI at e ⊢
  rw [dpa_len h]
  cases q : ixN ds.length i with
  | none => rw [q] at e; cases e
  | some j =>
    rw [q] at e
    obtain ⟨v, h1, h2⟩ := dpa_get h e
    exact ⟨v, h1, h2⟩)
theorem rss_at {F : Hp} {vs : List V} {ds : List S} {i : Int} {d : S} (h : RSs K F vs ds) (e : atI ds i = some d) : ∃ v, atI vs i = some v ∧ RS K F v d := (by
  unfold atI at e ⊢
  rw [pr_len h]
  cases q : ixN ds.length i with
  | none => rw [q] at e; cases e
  | some j =>
    rw [q] at e
    obtain ⟨v, h1, h2⟩ := pr_get h e
    exact ⟨v, h1, h2⟩)
theorem ix_l {ds : List PyData} {i : Int} {d : PyData} (h : atI ds i = some d) (q : Q (.d d) m) : LO K (rIX K) (.d (.list ds)) (.d (.int i)) m Q := lo_l fun v u F R H Q' a b c k => by
  obtain ⟨p, vs, rfl, h1, h2⟩ := dp_list a
  cases b
  obtain ⟨v, hv, hd⟩ := dqa_at h2 h
  exact ⟨p, vs, i, v, rfl, rfl, (cn_sub c).seq h1, hv, k v (.d d) F m H (Same.refl F) c hd q⟩
theorem ix_t {ds : List PyData} {i : Int} {d : PyData} (h : atI ds i = some d) (q : Q (.d d) m) : LO K (rIX K) (.d (.tuple ds)) (.d (.int i)) m Q := lo_r (lo_l fun v u F R H Q' a b c k => by
  obtain ⟨p, vs, rfl, h1, h2⟩ := dp_tup a
  cases b
  obtain ⟨v, hv, hd⟩ := dqa_at h2 h
  exact ⟨p, vs, i, v, rfl, rfl, same_sqt (cn_sub c) h1, hv, k v (.d d) F m H (Same.refl F) c hd q⟩)
theorem ix_s {z : Str} {i : Int} {n : Nat} (hl : z.length ≤ 1000000) (h : atI z.cps.toList i = some n) (q : Q (.d (.str ⟨#[n]⟩)) m) : LO K (rIX K) (.d (.str z)) (.d (.int i)) m Q := lo_r (lo_r fun v u F R H Q' a b c k => by
  cases a; cases b
  exact ⟨z, i, n, rfl, rfl, sz_ok hl, h, k _ (.d (.str ⟨#[n]⟩)) F m H (Same.refl F) c (Dq.str _) q⟩)
theorem ix_o {p : Addr} {xs : List S} {i : Int} {x : S} (hm : m p = some (.lst xs)) (h : atI xs i = some x) (q : Q x m) : LO K (rIX K) (.r p) (.d (.int i)) m Q := lo_l fun v u F R H Q' a b c k => by
  cases a; cases b
  obtain ⟨vs, hv, rv⟩ := own_lst c hm
  obtain ⟨v, h1, h2⟩ := rss_at rv h
  exact ⟨p, vs, i, v, rfl, rfl, .inl (.inl hv), h1, k v x F m H (Same.refl F) c h2 q⟩
theorem atI_map {α β : Type} {f : α → β} {xs : List α} {i : Int} {x : α} (h : atI xs i = some x) : atI (xs.map f) i = some (f x) := (by
  unfold atI at h ⊢
  rw [List.length_map]
  cases q : ixN xs.length i with
  | none => rw [q] at h; cases h
  | some j =>
    rw [q] at h
    show (xs.map f)[j]? = _
    have h : xs[j]? = some x := h
    rw [List.getElem?_map, h]; rfl)
theorem ix_scr {ns : List Int} {i n : Int} (h : atI ns i = some n) (q : Q (.d (.int n)) m) : LO K (rIX K) (.scr ns) (.d (.int i)) m Q := lo_l fun v u F R H Q' a b c k => by
  obtain ⟨p, rfl, hs⟩ := a
  cases b
  exact ⟨p, _, i, .int n, rfl, rfl, (cn_sub c).seq hs, atI_map h, k _ (.d (.int n)) F m H (Same.refl F) c (Dq.int _) q⟩
/-! slices -/
def cutL {α : Type} (xs : List α) (lo hi : Option Int) : List α := (xs.drop (HT.sIx xs.length 0 lo)).take (HT.sIx xs.length xs.length hi - HT.sIx xs.length 0 lo)
def rSL (K : PySem.W.Frag) : V → Option Int → Option Int → Hp → VK → Prop := fun x lo hi H Q => rSlL K x lo hi H Q ∨ rSlT K x lo hi H Q ∨ rSlS x lo hi H Q
theorem sl_all {X : Cx} : SlR X (rSL X.K) := sl_list.or (sl_tup.or sl_str)
theorem dqa_take {F : Hp} : ∀ {vs : List V} {ds : List PyData} (n : Nat), DqAll K F vs ds → DqAll K F (vs.take n) (ds.take n)
  | _, _, 0, _ => .nil
  | _, _, _ + 1, .nil => .nil
  | _, _, n + 1, .cons a b => .cons a (dqa_take n b)
theorem dqa_drop {F : Hp} : ∀ {vs : List V} {ds : List PyData} (n : Nat), DqAll K F vs ds → DqAll K F (vs.drop n) (ds.drop n)
  | _, _, 0, h => h
  | _, _, _ + 1, .nil => .nil
  | _, _, n + 1, .cons _ b => dqa_drop n b
theorem dqa_cut {F : Hp} {vs : List V} {ds : List PyData} {lo hi : Option Int} (h : DqAll K F vs ds) : DqAll K F (cutV vs lo hi) (cutL ds lo hi) := (by
  unfold cutV cutL
  rw [dpa_len h]
  exact dqa_take _ (dqa_drop _ h))
theorem sl_l {ds : List PyData} {lo hi : Option Int} (q : Q (.d (.list (cutL ds lo hi))) m) : LS K (rSL K) (.d (.list ds)) lo hi m Q := ls_l fun v F R H Q' a c k => by
  obtain ⟨p, vs, rfl, h1, h2⟩ := dp_list a
  exact ⟨p, vs, rfl, (cn_sub c).seq h1, fun l hl => new_D c hl (dqa_cut h2) k q⟩
theorem sl_lO {ds : List PyData} {lo hi : Option Int} (q : ∀ p, m p = none → Q (.r p) (mset m p (.lst ((cutL ds lo hi).map S.d)))) : LS K (rSL K) (.d (.list ds)) lo hi m Q := ls_l fun v F R H Q' a c k => by
  obtain ⟨p, vs, rfl, h1, h2⟩ := dp_list a
  exact ⟨p, vs, rfl, (cn_sub c).seq h1, fun l hl => new_O c hl (dpa_rss (dqa_cut h2)) k q⟩
theorem cut_map {α β : Type} (f : α → β) (xs : List α) (lo hi : Option Int) : cutL (xs.map f) lo hi = (cutL xs lo hi).map f := (by
  unfold cutL
  rw [List.length_map, ← List.map_drop, ← List.map_take])
theorem sl_scr {ns : List Int} {lo hi : Option Int} (q : Q (.d (.list ((cutL ns lo hi).map PyData.int))) m) : LS K (rSL K) (.scr ns) lo hi m Q := ls_l fun v F R H Q' a c k => by
  obtain ⟨p, rfl, hs⟩ := a
  refine ⟨p, _, rfl, (cn_sub c).seq hs, fun l hl => new_D c hl (ds := (cutL ns lo hi).map PyData.int) ?_ k q⟩
  rw [← cut_map]
  exact dqa_cut ints_dqa
theorem cut_len {α : Type} (xs : List α) (lo hi : Option Int) : (cutL xs lo hi).length ≤ xs.length := (by
  unfold cutL
  rw [List.length_take, List.length_drop]
  omega)
theorem sIx_pre {n : Nat} {k : Int} (h : 0 ≤ k) : HT.sIx n n (some k) = min k.toNat n := (by
  show (if k < 0 then _ else _) = _
  rw [if_neg (by omega)])
/-- xs[:k] -/
theorem cut_pre {α : Type} (xs : List α) {k : Int} (h : 0 ≤ k) : cutL xs none (some k) = xs.take k.toNat := (by
  unfold cutL
  rw [HT.sIx_none, sIx_pre h]
  simp [Nat.min_comm])
/-- xs[k:] -/
theorem cut_suf {α : Type} (xs : List α) {k : Int} (h : 0 ≤ k) : cutL xs (some k) none = xs.drop k.toNat := (by
  unfold cutL
  rw [HT.sIx_none, show HT.sIx xs.length 0 (some k) = min k.toNat xs.length by show (if k < 0 then _ else _) = _; rw [if_neg (by omega)]]
  rcases Nat.le_total k.toNat xs.length with e | e
  · rw [Nat.min_eq_left e]
    exact List.take_of_length_le (by rw [List.length_drop]; exact Nat.le_refl _)
  · rw [Nat.min_eq_right e, List.drop_of_length_le (Nat.le_refl _), List.drop_of_length_le e]; simp)
/-! built-in calls -/
def rAbs : List V → Hp → VK → Prop := fun xs H Q => ∃ i, xs = [.int i] ∧ Q (.int (if i < 0 then -i else i)) H
theorem cr_abs {X : Cx} : CallR X (.builtin "abs") rAbs := call_abs
theorem abs_i {i : Int} (q : Q (.d (.int (if i < 0 then -i else i))) m) : LB K rAbs [.d (.int i)] m Q := fun vs F R H Q' a c k => by
  cases a with
  | cons a b => cases b; cases a; exact ⟨i, rfl, k _ (.d (.int (if i < 0 then -i else i))) F m H (Same.refl F) c (Dq.int _) q⟩
def rMax2 : List V → Hp → VK → Prop := fun xs H Q => ∃ i j, xs = [.int i, .int j] ∧ Q (.int (if j > i then j else i)) H
def rMin2 : List V → Hp → VK → Prop := fun xs H Q => ∃ i j, xs = [.int i, .int j] ∧ Q (.int (if j < i then j else i)) H
def rMaxA (K : PySem.W.Frag) : List V → Hp → VK → Prop := fun xs H Q => rMax2 xs H Q ∨ rMax K xs H Q
def rMinA (K : PySem.W.Frag) : List V → Hp → VK → Prop := fun xs H Q => rMin2 xs H Q ∨ rMin K xs H Q
theorem cr_maxA {X : Cx} (hc : X.calm = true) : CallR X (.builtin "max") (rMaxA X.K) := CallR.or (r := rMax2) (call_max2 hc) (cr_max hc)
theorem cr_minA {X : Cx} (hc : X.calm = true) : CallR X (.builtin "min") (rMinA X.K) := CallR.or (r := rMin2) (call_min2 hc) (cr_min hc)
theorem lb2 {xs : List V} {F : Hp} {i j : Int} (h : RSs K F xs [.d (.int i), .d (.int j)]) : xs = [.int i, .int j] := (by
  cases h with
  | cons a b => cases b with
    | cons b d => cases d; cases a; cases b; rfl)
theorem max2_i {i j : Int} (q : Q (.d (.int (if j > i then j else i))) m) : LB K (rMaxA K) [.d (.int i), .d (.int j)] m Q := lb_l fun vs F R H Q' a c k => by
  rw [lb2 a]; exact ⟨i, j, rfl, k _ (.d (.int (if j > i then j else i))) F m H (Same.refl F) c (Dq.int _) q⟩
theorem min2_i {i j : Int} (q : Q (.d (.int (if j < i then j else i))) m) : LB K (rMinA K) [.d (.int i), .d (.int j)] m Q := lb_l fun vs F R H Q' a c k => by
  rw [lb2 a]; exact ⟨i, j, rfl, k _ (.d (.int (if j < i then j else i))) F m H (Same.refl F) c (Dq.int _) q⟩
theorem lb_ints {xs : List V} {F R H : Hp} {ns : List Int} (c : Cn K m F R H) (h : RSs K F xs [.d (.list (ns.map PyData.int))]) : ∃ p, xs = [.ref p] ∧ SqL K H p (ns.map V.int) := (by
  cases h with
  | cons a b =>
    cases b
    obtain ⟨p, vs, rfl, h1, h2⟩ := dp_list a
    exact ⟨p, rfl, by rw [← ints_of h2]; exact (cn_sub c).seq h1⟩)
theorem max_is {ns : List Int} (hn : 0 < ns.length) (q : ∀ i, i ∈ ns → (∀ y, y ∈ ns → y ≤ i) → Q (.d (.int i)) m) : LB K (rMaxA K) [.d (.list (ns.map PyData.int))] m Q := lb_r fun vs F R H Q' a c k => by
  obtain ⟨p, rfl, hs⟩ := lb_ints c a
  exact ⟨p, ns, rfl, hs, hn, fun i h1 h2 => k _ (.d (.int i)) F m H (Same.refl F) c (Dq.int _) (q i h1 h2)⟩
theorem min_is {ns : List Int} (hn : 0 < ns.length) (q : ∀ i, i ∈ ns → (∀ y, y ∈ ns → i ≤ y) → Q (.d (.int i)) m) : LB K (rMinA K) [.d (.list (ns.map PyData.int))] m Q := lb_r fun vs F R H Q' a c k => by
  obtain ⟨p, rfl, hs⟩ := lb_ints c a
  exact ⟨p, ns, rfl, hs, hn, fun i h1 h2 => k _ (.d (.int i)) F m H (Same.refl F) c (Dq.int _) (q i h1 h2)⟩
theorem sum_is {ns : List Int} (q : Q (.d (.int ns.sum)) m) : LB K (rSum K) [.d (.list (ns.map PyData.int))] m Q := fun vs F R H Q' a c k => by
  obtain ⟨p, rfl, hs⟩ := lb_ints c a
  exact ⟨p, ns, rfl, hs, k _ (.d (.int ns.sum)) F m H (Same.refl F) c (Dq.int _) q⟩
theorem sorted_is {ns : List Int} (q : ∀ ns' : List Int, ns'.Perm ns → ns'.Pairwise (· ≤ ·) → Q (.d (.list (ns'.map PyData.int))) m) : LB K (rSortedI K) [.d (.list (ns.map PyData.int))] m Q := fun vs F R H Q' a c k => by
  obtain ⟨p, rfl, hs⟩ := lb_ints c a
  exact ⟨p, ns, rfl, hs, fun ns' l h1 h2 hl => new_D c hl ints_dqa k (q ns' h1 h2)⟩
theorem lb_bools {xs : List V} {F R H : Hp} {ns : List Bool} (c : Cn K m F R H) (h : RSs K F xs [.d (.list (ns.map PyData.bool))]) : ∃ p, xs = [.ref p] ∧ SqL K H p (ns.map V.bl) := (by
  cases h with
  | cons a b =>
    cases b
    obtain ⟨p, vs, rfl, h1, h2⟩ := dp_list a
    exact ⟨p, rfl, by rw [← bools_of h2]; exact (cn_sub c).seq h1⟩)
theorem any_bs {bs : List Bool} (q : Q (.d (.bool (bs.any id))) m) : LB K (rAny K) [.d (.list (bs.map PyData.bool))] m Q := fun vs F R H Q' a c k => by
  obtain ⟨p, rfl, hs⟩ := lb_bools c a
  exact ⟨p, bs, rfl, hs, k _ (.d (.bool (bs.any id))) F m H (Same.refl F) c (Dq.bl _) q⟩
theorem all_bs {bs : List Bool} (q : Q (.d (.bool (bs.all id))) m) : LB K (rAll K) [.d (.list (bs.map PyData.bool))] m Q := fun vs F R H Q' a c k => by
  obtain ⟨p, rfl, hs⟩ := lb_bools c a
  exact ⟨p, bs, rfl, hs, k _ (.d (.bool (bs.all id))) F m H (Same.refl F) c (Dq.bl _) q⟩
def rInt1 : List V → Hp → VK → Prop := fun xs H Q => (∃ i, xs = [.int i] ∧ Q (.int i) H) ∨ ∃ k, xs = [.bl k] ∧ Q (.int (if k then 1 else 0)) H
theorem cr_int1 {X : Cx} : CallR X (.type "int") rInt1 := call_int1
theorem int_b {b : Bool} (q : Q (.d (.int (if b then 1 else 0))) m) : LB K rInt1 [.d (.bool b)] m Q := fun vs F R H Q' a c k => by
  cases a with
  | cons a d => cases d; cases a; exact .inr ⟨b, rfl, k _ (.d (.int (if b then 1 else 0))) F m H (Same.refl F) c (Dq.int _) q⟩
def rListOf (K : PySem.W.Frag) : List V → Hp → VK → Prop := fun xs H Q => ∃ p ys, xs = [.ref p] ∧ (SqL K H p ys ∨ SqT K H p ys) ∧ ∀ l, H l = none → Q (.ref l) (upd H l (.lst ys))
theorem cr_listOf {X : Cx} : CallR X (.type "list") (rListOf X.K) := call_list_of
theorem list_l {ds : List PyData} (q : Q (.d (.list ds)) m) : LB K (rListOf K) [.d (.list ds)] m Q := fun vs F R H Q' a c k => by
  cases a with
  | cons a d =>
    cases d
    obtain ⟨p, vs, rfl, h1, h2⟩ := dp_list a
    exact ⟨p, vs, rfl, .inl ((cn_sub c).seq h1), fun l hl => new_D c hl h2 k q⟩
theorem list_lO {ds : List PyData} (q : ∀ p, m p = none → Q (.r p) (mset m p (.lst (ds.map S.d)))) : LB K (rListOf K) [.d (.list ds)] m Q := fun vs F R H Q' a c k => by
  cases a with
  | cons a d =>
    cases d
    obtain ⟨p, vs, rfl, h1, h2⟩ := dp_list a
    exact ⟨p, vs, rfl, .inl ((cn_sub c).seq h1), fun l hl => new_O c hl (dpa_rss h2) k q⟩
theorem list_t {ds : List PyData} (q : Q (.d (.list ds)) m) : LB K (rListOf K) [.d (.tuple ds)] m Q := fun vs F R H Q' a c k => by
  cases a with
  | cons a d =>
    cases d
    obtain ⟨p, vs, rfl, h1, h2⟩ := dp_tup a
    exact ⟨p, vs, rfl, .inr (same_sqt (cn_sub c) h1), fun l hl => new_D c hl h2 k q⟩
theorem list_o {a : Addr} {ds : List PyData} (hm : m a = some (.lst (ds.map S.d))) (q : Q (.d (.list ds)) m) : LB K (rListOf K) [.r a] m Q := fun vs F R H Q' h c k => by
  cases h with
  | cons h d =>
    cases d
    cases h
    obtain ⟨vs, hv, rv⟩ := own_lst c hm
    exact ⟨a, vs, rfl, .inl (.inl (.inl hv)), fun l hl => new_D c hl (rss_dpa rv) k q⟩
def rTupOf (K : PySem.W.Frag) : List V → Hp → VK → Prop := fun xs H Q => ∃ p ys, xs = [.ref p] ∧ ((SqL K H p ys ∧ ∀ l, H l = none → Q (.ref l) (upd H l (.tup ys))) ∨ (SqT K H p ys ∧ Q (.ref p) H))
theorem cr_tupOf {X : Cx} : CallR X (.type "tuple") (rTupOf X.K) := call_tuple_of
theorem tup_l {ds : List PyData} (q : Q (.d (.tuple ds)) m) : LB K (rTupOf K) [.d (.list ds)] m Q := fun vs F R H Q' a c k => by
  cases a with
  | cons a d =>
    cases d
    obtain ⟨p, vs, rfl, h1, h2⟩ := dp_list a
    exact ⟨p, vs, rfl, .inl ⟨(cn_sub c).seq h1, fun l hl => new_T c hl h2 k q⟩⟩
theorem tup_t {ds : List PyData} (q : Q (.d (.tuple ds)) m) : LB K (rTupOf K) [.d (.tuple ds)] m Q := fun vs F R H Q' a c k => by
  cases a with
  | cons a d =>
    cases d
    obtain ⟨p, vs, rfl, h1, h2⟩ := dp_tup a
    exact ⟨p, vs, rfl, .inr ⟨same_sqt (cn_sub c) h1, k _ (.d (.tuple ds)) F m H (Same.refl F) c a q⟩⟩
/-! list(range(..)) -/
def ARR (K : PySem.W.Frag) (t : L2.St → Hp → (Int → Int → Hp → Prop) → Prop) (Γ : Sl) (m : Mem) (Q : Int → Int → Mem → Prop) : Prop :=
  ∀ (σ : L2.St) (F R H : Hp) (Q' : Int → Int → Hp → Prop), RG K F σ Γ → Cn K m F R H → (∀ i j F' m' H', Same F F' → Cn K m' F' R H' → Q i j m' → Q' i j H') → t σ H Q'
theorem arr_1 {ta : TE} {Q : Int → Int → Mem → Prop} (h : AR K ta Γ m fun x m1 => ∃ n, x = .d (.int n) ∧ Q 0 n m1) : ARR K (tRg1 ta) Γ m Q := fun σ F R H Q' g c k =>
  h σ F R H _ g c fun v x F1 m1 H1 e1 c1 r1 q1 => by
    obtain ⟨n, rfl, q⟩ := q1
    cases r1
    exact ⟨n, rfl, k 0 n F1 m1 H1 e1 c1 q⟩
theorem arr_2 {ta tb : TE} {Q : Int → Int → Mem → Prop} (h : AR K ta Γ m fun x m1 => AR K tb Γ m1 fun y m2 => ∃ i j, x = .d (.int i) ∧ y = .d (.int j) ∧ Q i j m2) : ARR K (tRg2 ta tb) Γ m Q := fun σ F R H Q' g c k =>
  h σ F R H _ g c fun v x F1 m1 H1 e1 c1 r1 q1 => q1 σ F1 R H1 _ (rg_mono e1 g) c1 fun u y F2 m2 H2 e2 c2 r2 q2 => by
    obtain ⟨i, j, rfl, rfl, q⟩ := q2
    cases r1; cases r2
    exact ⟨i, j, rfl, rfl, k i j F2 m2 H2 (e1.trans e2) c2 q⟩
/-! isinstance -/
def tyD : PyData → String
  | .none => "NoneType"
  | .bool _ => "bool"
  | .int _ => "int"
  | .str _ => "str"
  | .list _ => "list"
  | .tuple _ => "tuple"
  | .dict _ => "dict"
theorem dq_ty {F H : Hp} (e : Same F H) {v : V} {d : PyData} (h : Dq K F v d) : TyX K H v (.type (tyD d)) := (by
  cases h with
  | non => exact .base .non
  | bl b => exact .base (.bl b)
  | int i => exact .base (.int i)
  | str x => exact .base (.str x)
  | lst h _ => exact .base (.lst (e _ _ h))
  | tup h _ => exact .base (.tup (e _ _ h))
  | dct h _ => exact .base (.dK (e _ _ h)))
theorem isi_d {d : PyData} {c : String} {b : Bool} (hk : kitB (tyD d) c = some b) (q : Q (.d (.bool b)) m) : LB K (rIsi K) [.d d, .t c] m Q := fun vs F R H Q' a cn k => by
  cases a with
  | cons a a2 =>
    cases a2 with
    | cons a2 a3 =>
      cases a3
      obtain rfl := a2
      exact ⟨_, _, _, _, b, rfl, .ty c, dq_ty (cn_sub cn) a, kit_ty hk, k _ (.d (.bool b)) F m H (Same.refl F) cn (Dq.bl _) q⟩
theorem ar_ty {n : String} (q : Q (.t n) m) : AR K (tC (.ty n)) Γ m Q := fun σ F R H Q' g c k => k _ (.t n) F m H (Same.refl F) c rfl q
/-! stores: owned lists -/
theorem set_o {p : Addr} {xs : List S} {i : Int} {j : Nat} {x : S} {Q : Mem → Prop} (hm : m p = some (.lst xs)) (hj : ixN xs.length i = some j) (q : Q (mset m p (.lst (xs.set j x)))) : LSet K rSetL (.r p) (.d (.int i)) x m Q := fun ov iv v F R H Q' a b rv c k => by
  cases a; cases b
  obtain ⟨vs, hv, rs⟩ := own_lst c hm
  exact ⟨p, vs, i, j, rfl, rfl, hv, by rw [pr_len rs]; exact hj, k F _ _ (Same.refl F) (cn_set (o := .lst (vs.set j v)) (x := .lst (xs.set j x)) c hm (pr_set rv j rs)) q⟩
theorem lm1 {vs : List V} {F : Hp} {x : S} (h : RSs K F vs [x]) : ∃ v, vs = [v] ∧ RS K F v x := (by
  cases h with
  | cons a b => cases b; exact ⟨_, rfl, a⟩)
theorem app_o {p : Addr} {xs : List S} {x : S} (hm : m p = some (.lst xs)) (hl : xs.length < 1000000) (q : Q (.d .none) (mset m p (.lst (xs ++ [x])))) : LM K rAppend (.r p) [x] m Q := fun v vs F R H Q' a b c k => by
  cases a
  obtain ⟨u, rfl, ru⟩ := lm1 b
  obtain ⟨ws, hv, rs⟩ := own_lst c hm
  exact ⟨p, ws, u, rfl, rfl, hv, by rw [pr_len rs]; exact sz_lt hl, k _ (.d .none) F _ _ (Same.refl F) (cn_set (o := .lst (ws ++ [u])) (x := .lst (xs ++ [x])) c hm (pr_app rs (.cons ru .nil))) Dq.non q⟩
theorem ext_o {p : Addr} {xs : List S} {ds : List PyData} (hm : m p = some (.lst xs)) (hl : xs.length + ds.length ≤ 1000000) (q : Q (.d .none) (mset m p (.lst (xs ++ ds.map S.d)))) : LM K rExtend (.r p) [.d (.list ds)] m Q := fun v vs F R H Q' a b c k => by
  cases a
  obtain ⟨u, rfl, ru⟩ := lm1 b
  obtain ⟨ws, hv, rs⟩ := own_lst c hm
  obtain ⟨p2, us, rfl, h1, h2⟩ := dp_listH ru
  exact ⟨p, p2, ws, us, rfl, rfl, hv, cn_sub c _ _ h1, by rw [pr_len rs, dpa_len h2]; exact sz_ok hl, k _ (.d .none) F _ _ (Same.refl F) (cn_set (o := .lst (ws ++ us)) (x := .lst (xs ++ ds.map S.d)) c hm (pr_app rs (dpa_rss h2))) Dq.non q⟩
theorem pr_dl {α β : Type} {P : α → β → Prop} {as : List α} {bs : List β} (h : Paired P as bs) : Paired P as.dropLast bs.dropLast := (by
  rw [List.dropLast_eq_take, List.dropLast_eq_take, pr_len h]
  exact pr_take _ h)
theorem pop_o {p : Addr} {xs : List S} {x : S} (hm : m p = some (.lst xs)) (hx : xs[xs.length - 1]? = some x) (q : Q x (mset m p (.lst xs.dropLast))) : LM K rPop (.r p) [] m Q := fun v vs F R H Q' a b c k => by
  cases a; cases b
  obtain ⟨ws, hv, rs⟩ := own_lst c hm
  obtain ⟨u, h1, h2⟩ := pr_get rs hx
  exact ⟨p, ws, u, rfl, rfl, hv, by rw [pr_len rs]; exact h1, k _ x F _ _ (Same.refl F) (cn_set (o := .lst ws.dropLast) (x := .lst xs.dropLast) c hm (pr_dl rs)) h2 q⟩
theorem pr_er {α β : Type} {P : α → β → Prop} : ∀ {as : List α} {bs : List β} (n : Nat), Paired P as bs → Paired P (as.eraseIdx n) (bs.eraseIdx n)
  | _, _, _, .nil => .nil
  | _, _, 0, .cons _ b => b
  | _, _, n + 1, .cons a b => .cons a (pr_er n b)
theorem popAt_o {p : Addr} {xs : List S} {i : Int} {x : S} (hm : m p = some (.lst xs)) (h0 : 0 ≤ i) (h1 : i < 1000000) (hx : xs[i.toNat]? = some x) (q : Q x (mset m p (.lst (xs.eraseIdx i.toNat)))) : LM K rPopAt (.r p) [.d (.int i)] m Q := fun v vs F R H Q' a b c k => by
  cases a
  obtain ⟨u, rfl, ru⟩ := lm1 b
  cases ru
  obtain ⟨ws, hv, rs⟩ := own_lst c hm
  obtain ⟨u, h2, h3⟩ := pr_get rs hx
  have hlt := (List.getElem?_eq_some_iff.mp hx).1
  refine ⟨p, ws, i, i.toNat, u, rfl, rfl, hv, by omega, by omega, ?_, h2, k _ x F _ _ (Same.refl F) (cn_set (o := .lst (ws.eraseIdx i.toNat)) (x := .lst (xs.eraseIdx i.toNat)) c hm (pr_er _ rs)) h3 q⟩
  rw [pr_len rs]
  have hix : ixN xs.length i = some i.toNat := by
    unfold ixN
    rw [if_pos h0, if_pos (by omega)]
  exact (ixN_seq hix).1
theorem rev_o {p : Addr} {xs : List S} (hm : m p = some (.lst xs)) (q : Q (.d .none) (mset m p (.lst xs.reverse))) : LM K rReverse (.r p) [] m Q := fun v vs F R H Q' a b c k => by
  cases a; cases b
  obtain ⟨ws, hv, rs⟩ := own_lst c hm
  exact ⟨p, ws, rfl, rfl, hv, k _ (.d .none) F _ _ (Same.refl F) (cn_set (o := .lst ws.reverse) (x := .lst xs.reverse) c hm (pr_rev rs)) Dq.non q⟩
theorem clear_o {p : Addr} {xs : List S} (hm : m p = some (.lst xs)) (q : Q (.d .none) (mset m p (.lst []))) : LM K rClear (.r p) [] m Q := fun v vs F R H Q' a b c k => by
  cases a; cases b
  obtain ⟨ws, hv, rs⟩ := own_lst c hm
  exact ⟨p, ws, rfl, rfl, hv, k _ (.d .none) F _ _ (Same.refl F) (cn_set (o := .lst []) (x := .lst []) c hm .nil) Dq.non q⟩
def rInsert : V → List V → Hp → VK → Prop := fun x vs H Q => ∃ (l : Addr) (xs : List V) (i : Int) (y : V), x = .ref l ∧ vs = [.int i, y] ∧ H l = some (.lst xs) ∧ xs.length < sizeLine ∧ 0 ≤ i ∧ i < 2 ^ 63 ∧
    Q .non (upd H l (.lst (xs.take i.toNat ++ [y] ++ xs.drop i.toNat)))
theorem mt_ins {X : Cx} : MtR X "list.insert" rInsert := mt_insert
theorem ins_o {p : Addr} {xs : List S} {i : Int} {x : S} (hm : m p = some (.lst xs)) (hl : xs.length < 1000000) (h0 : 0 ≤ i) (h1 : i < 9000000000000000000) (q : Q (.d .none) (mset m p (.lst (xs.take i.toNat ++ [x] ++ xs.drop i.toNat)))) : LM K rInsert (.r p) [.d (.int i), x] m Q := fun v vs F R H Q' a b c k => by
  cases a
  cases b with
  | cons b1 b =>
    obtain ⟨u, rfl, ru⟩ := lm1 b
    cases b1
    obtain ⟨ws, hv, rs⟩ := own_lst c hm
    exact ⟨p, ws, i, u, rfl, rfl, hv, by rw [pr_len rs]; exact sz_lt hl, h0, by omega, k _ (.d .none) F _ _ (Same.refl F) (cn_set (o := .lst (ws.take i.toNat ++ [u] ++ ws.drop i.toNat)) (x := .lst (xs.take i.toNat ++ [x] ++ xs.drop i.toNat)) c hm (pr_app (pr_app (pr_take _ rs) (.cons ru .nil)) (pr_drop _ rs))) Dq.non q⟩
end
end DL

namespace DL
open PySem PySem.Spec PyProof.Rows L2

/-! ### defs -/
/-- a return, the owned lists that it hands out as data on the way, others forgotten -/
def RT (Z : S → Mem → Prop) : S → Mem → Prop := fun x m' => ∃ m2, Le m2 m' ∧ (Z x m2 ∨ ∃ d, Rp m' m2 x d ∧ Z (.d d) m2)
theorem rt_id {Z : S → Mem → Prop} {x : S} {m : Mem} (h : Z x m) : RT Z x m := ⟨m, Le.refl m, .inl h⟩
theorem rt_le {Z : S → Mem → Prop} {x : S} {m m2 : Mem} (l : Le m2 m) (h : Z x m2) : RT Z x m := ⟨m2, l, .inl h⟩
/-- an owned list handed out as data -/
theorem rt_fz {Z : S → Mem → Prop} {a : Addr} {ds : List PyData} {m m2 : Mem} (hm : m a = some (.lst (ds.map S.d))) (l : Le m2 m) (h2 : m2 a = none) (h : Z (.d (.list ds)) m2) : RT Z (.r a) m := ⟨m2, l, .inr ⟨.list ds, .lst hm h2 rp_ds, h⟩⟩
/-- .. of n arguments -/
def LF (n : Nat) (fs : FS) : FS := fun xs m Z => xs.length = n ∧ fs xs m Z
section
variable {P : Program} {w : World} {K : PySem.W.Frag} {mg : Str → Option Value} {base : Heap}
/-- a def of the text that is reached by its name -/
structure Top (K : PySem.W.Frag) (mg : Str → Option Value) (x : Str) (st : Stmt) (ps : List Str) : Prop where
  ex : ∃ (f : Addr) (fd : FuncData), Fun K x x st f fd ∧ mg x = some (.ref f) ∧ ∀ us : List Value, us.length = ps.length → bindArgs fd ⟨us, []⟩ = pure (ps.zip us)
/-- .. with what it promises -/
structure Cal (P : Program) (w : World) (K : PySem.W.Frag) (mg : Str → Option Value) (base : Heap) (k n : Nat) (x : Str) (fs : FS) : Prop where
  ex : ∃ (f : Addr) (fd : FuncData) (ps : List Str), FnOk P w K mg base CX0 k f fd ps (toSp K (LF n fs)) ∧ mg x = some (.ref f) ∧ PySem.W.keepIn K (.ref f) = true ∧ Binds K fd ps []
theorem cal_mono {j k n : Nat} {x : Str} {fs : FS} (c : Cal P w K mg base j n x fs) (h : j ≤ k) : Cal P w K mg base k n x fs := (by
  obtain ⟨f, fd, ps, F, a, b, d⟩ := c.ex
  exact ⟨f, fd, ps, F.mono h, a, b, d⟩)
theorem cal_imp {k n : Nat} {x : Str} {fs fs' : FS} (c : Cal P w K mg base k n x fs) (h : ∀ xs m Z, fs' xs m Z → fs xs m Z) : Cal P w K mg base k n x fs' := (by
  obtain ⟨f, fd, ps, F, a, b, d⟩ := c.ex
  exact ⟨f, fd, ps, F.imp fun vs H Q E ⟨F, R, m, xs, Z, h1, h2, h3, h4⟩ => ⟨F, R, m, xs, Z, h1, h2, ⟨h3.1, h _ _ _ h3.2⟩, h4⟩, a, b, d⟩)
theorem fn_dl {x qual : Str} {st : Stmt} {f : Addr} {fd : FuncData} {N ps : List Str} {k : Nat} {fs : FS} (F : Fun K x qual st f fd) (S : FnScope N ps (defScope st))
    (hbody : ∀ (cdv : Value) (A : Around) (outer : List Env) (s : Shared) (H : Hp) (E : XK), Room k (A.deeper (envOfC qual (defScope st) s.heap.objs.size f cdv)) →
      ∃ t, PSs (cxOf CX0 P w K mg base N qual (defScope st) f cdv A outer s H E).nox (defBody st) t ∧
        ∀ xs m Z, fs xs m Z → ARS K t (xs.map some ++ List.replicate (N.length - xs.length) none) m { nx := fun _ m' => RT Z (.d .none) m', rt := RT Z }) : FnOk P w K mg base CX0 (k + 1) f fd ps (toSp K (LF ps.length fs)) := by
  refine F.ok S (fun vs H Q E ⟨F, R, m, xs, Z, _, r, h, _⟩ => (pr_len r).trans h.1) fun cdv A outer s H vs Q E hr ⟨F, R, m, xs, Z, c, r, ⟨_, h⟩, k⟩ => ?_
  obtain ⟨t, ht, hb⟩ := hbody cdv A outer s H E hr
  have go : ∀ v x F' m' H', Same F F' → Cn K m' F' R H' → RS K F' v x → RT Z x m' → Q v H' := fun v x F' m' H' e c' r' hq => by
    obtain ⟨m2, l, q | ⟨d, rp, q⟩⟩ := hq
    · exact k v x _ m2 H' (e.trans (frzF_same c')) (cn_frz c' l) (rs_mono (frzF_same c') r') q
    · exact k v (.d d) _ m2 H' (e.trans (frzF_same c')) (cn_frz c' l) (rp_dp c' rp r') q
  exact ⟨t, ht, hb xs m Z h (L2.start N vs) F R H _ (rg_start r N) c ⟨fun σ Γ F' m' H' e _ c' q => go _ (.d .none) F' m' H' e c' Dq.non q, go, fun _ _ _ _ _ _ _ _ z => z.elim, fun _ _ _ _ _ _ _ _ z => z.elim⟩⟩
theorem cal_dl {x : Str} {st : Stmt} {N ps : List Str} {k : Nat} {fs : FS} (T : Top K mg x st ps) (S : FnScope N ps (defScope st))
    (hbody : ∀ (f : Addr) (cdv : Value) (A : Around) (outer : List Env) (s : Shared) (H : Hp) (E : XK), Room k (A.deeper (envOfC x (defScope st) s.heap.objs.size f cdv)) →
      ∃ t, PSs (cxOf CX0 P w K mg base N x (defScope st) f cdv A outer s H E).nox (defBody st) t ∧
        ∀ xs m Z, fs xs m Z → ARS K t (xs.map some ++ List.replicate (N.length - xs.length) none) m { nx := fun _ m' => RT Z (.d .none) m', rt := RT Z }) : Cal P w K mg base (k + 1) ps.length x fs := by
  obtain ⟨f, fd, F, hm, b⟩ := T.ex
  exact ⟨f, fd, ps, fn_dl F S (hbody f), hm, F.kp, .all b⟩
end
section
variable {X : Cx} {k j n : Nat} {x : Str} {fs : FS} {p pos : Pos} {e : Expr} {es : List Expr} {t : TA} {te : TE}
theorem pe_f (c : Cal X.prog X.w X.K X.mg X.base k n x fs) (hr : Room j X.A) (hk : k ≤ j) (hg : Gl X x) (ha : PA X (e :: es) t)
    (hdb : (x == ("__debug__" : Str)) = false := by decide) (he : starEach (e :: es) X.env = (false, eval e X.env) :: starEach es X.env := by rfl) (hpl : (backTo pos (starEach es X.env)).any (·.1) = false := by rfl) :
    PE X (.Call (.Name x p) (e :: es) [] pos) (tCall (toSp X.K (LF n fs)) [] E0 t) := by
  obtain ⟨f, fd, ps, F, hm, kp, b⟩ := c.ex
  exact pe_call F (hr.mono hk) hg hm kp b .nil pass0 ha hdb he hpl
/-- what is to be owned -/
def tOwn (t : TE) : TE := t
theorem pe_own (h : PE X e te) : PE X e (tOwn te) := h
def rListOfO (K : PySem.W.Frag) : List V → Hp → VK → Prop := rListOf K
theorem cr_listOfO : CallR X (.type "list") (rListOfO X.K) := call_list_of
def rSLO (K : PySem.W.Frag) : V → Option Int → Option Int → Hp → VK → Prop := rSL K
theorem sl_allO : SlR X (rSLO X.K) := sl_all
def rPlusO (K : PySem.W.Frag) : R2 := rPlus K
theorem op_plusO : OpR X (binaryOp .Add) (rPlusO X.K) := op_plus
end
section
variable {K : PySem.W.Frag} {Γ : Sl} {m : Mem} {Q : S → Mem → Prop} {te : TE}
theorem ar_own (h : AR K te Γ m Q) : AR K (tOwn te) Γ m Q := h
theorem ar_lstO {t : TA} (h : ARA K t Γ m fun xs m1 => xs.length ≤ 1000000 ∧ ∀ p, m1 p = none → Q (.r p) (mset m1 p (.lst xs))) : AR K (tOwn (tLst t)) Γ m Q := ar_lst h
/-- [] owned -/
theorem ar_nilO (h : ∀ p, m p = none → Q (.r p) (mset m p (.lst []))) : AR K (tOwn (tLst tNil)) Γ m Q := ar_lst (ara_nil ⟨Nat.zero_le _, h⟩)
/-! a display's items by unification -/
theorem ex_ds0 {P : List PyData → Prop} (h : P []) : ∃ ds : List PyData, ([] : List S) = ds.map S.d ∧ P ds := ⟨[], rfl, h⟩
theorem ex_ds1 {P : List PyData → Prop} {a : PyData} (h : P [a]) : ∃ ds : List PyData, [S.d a] = ds.map S.d ∧ P ds := ⟨[a], rfl, h⟩
theorem ex_ds2 {P : List PyData → Prop} {a b : PyData} (h : P [a, b]) : ∃ ds : List PyData, [S.d a, S.d b] = ds.map S.d ∧ P ds := ⟨[a, b], rfl, h⟩
theorem ex_ds3 {P : List PyData → Prop} {a b c : PyData} (h : P [a, b, c]) : ∃ ds : List PyData, [S.d a, S.d b, S.d c] = ds.map S.d ∧ P ds := ⟨[a, b, c], rfl, h⟩
theorem ex_ds4 {P : List PyData → Prop} {a b c d : PyData} (h : P [a, b, c, d]) : ∃ ds : List PyData, [S.d a, S.d b, S.d c, S.d d] = ds.map S.d ∧ P ds := ⟨[a, b, c, d], rfl, h⟩
end
end DL
namespace DL
open PySem PySem.Spec PyProof.Rows L2
/-! ### data by type -/
abbrev dI (ns : List Int) : PyData := .list (ns.map PyData.int)
abbrev dSets (ss : List (List Int)) : PyData := .list (ss.map dI)
abbrev dPair (p : Nat × Int) : PyData := .tuple [.int (p.1 : Nat), .int p.2]
abbrev dPairs (ps : List (Nat × Int)) : PyData := .list (ps.map dPair)
theorem at_nat {α : Type} {xs : List α} {j : Nat} {x : α} (h : xs[j]? = some x) : atI xs (j : Int) = some x := atI_nat h
theorem atm {α β : Type} {f : α → β} {xs : List α} {j : Nat} {x : α} (h : xs[j]? = some x) : atI (xs.map f) (j : Int) = some (f x) := atI_map (atI_nat h)
theorem at_int {α : Type} {xs : List α} {i : Int} (h0 : 0 ≤ i) (h1 : i < xs.length) : ∃ x, atI xs i = some x ∧ x ∈ xs := (by
  obtain ⟨j, rfl⟩ := Int.eq_ofNat_of_zero_le h0
  have hj : j < xs.length := by omega
  exact ⟨xs[j], at_nat (List.getElem?_eq_getElem hj), List.getElem_mem hj⟩)
section
variable {K : PySem.W.Frag} {Γ : Sl} {m : Mem} {Q : S → Mem → Prop}
/-- an item of a written list of ints, at an open place -/
theorem ix_any {ns : List Int} {i : Int} (h0 : 0 ≤ i) (h1 : i < ns.length) (q : ∀ n, n ∈ ns → Q (.d (.int n)) m) : LO K (rIX K) (.d (.list (ns.map PyData.int))) (.d (.int i)) m Q := (by
  obtain ⟨n, h2, h3⟩ := at_int h0 h1
  exact ix_l (atI_map h2) (q n h3))
end
end DL
namespace DL
open PySem PySem.Spec PyProof.Rows L2
/-! ### the law's own call -/
def m0 : Mem := fun _ => none
theorem law_sp {K : PySem.W.Frag} {H : Hp} {a : Addr} {ns : List Int} {fs : FS} (hS : SqL K H a (ns.map V.int)) (h : fs [.scr ns] m0 fun x _ => x = .d (.bool true)) : toSp K (LF 1 fs) [.ref a] H (fun v _ => v = .bl true) fun _ _ _ => False :=
  ⟨H, fun _ => none, m0, [.scr ns], _, ⟨fun _ _ e => (nomatch e), fun _ _ e => (nomatch e), fun _ _ _ => rfl⟩,   .cons ⟨a, rfl, hS⟩ .nil, ⟨rfl, h⟩, fun v x F' m' H' _ _ r e => by
    subst e
    cases r
    rfl⟩
theorem law_fn {l : PySem.W.OpenLaw} {w : World} {K : PySem.W.Frag} {mg : Str → Option Value} {x p : Str} {st : Stmt} {fs : FS} {k : Nat} {fa : Addr} (hmg : mg x = some (.ref fa)) (T : Top K mg x st [p])
    (c : ∀ (base : Heap) (f : Addr) (fd : FuncData), Fun K x x st f fd → FnOk l.prog w K mg base CX0 k f fd [p] (toSp K (LF 1 fs))) :
    ∃ fd : FuncData, (∀ (s : Shared) (v : Value), BindsTo s fd ⟨[v], []⟩ [(p, v)]) ∧ ∀ base : Heap, K.In base → base.Ns mainGlobals mg → FnOk l.prog w K mg base CX0 k fa fd [p] (toSp K (LF 1 fs)) := by
  obtain ⟨f, fd, F, hm, b⟩ := T.ex
  have e := hmg.symm.trans hm
  cases e
  exact ⟨fd, fun s v => .of_eq (b [v] rfl), fun base _ _ => c base _ fd F⟩
end DL

namespace DL
open PySem PySem.Spec PyProof.Rows L2
/-! ### data that may be compared -/
def Sh (n : Nat) (d : PyData) : Prop := d.canLay0 = true ∧ d.depth ≤ n
theorem sh_ok {n : Nat} {d : PyData} (h : Sh n d) (hn : n ≤ 64 := by decide) : SeqAt.shaped d = true := (by
  unfold SeqAt.shaped
  rw [h.1, Bool.true_and]
  exact decide_eq_true (Nat.le_trans h.2 hn))
theorem sh_mono {n k : Nat} {d : PyData} (h : Sh n d) (hk : n ≤ k := by decide) : Sh k d := ⟨h.1, Nat.le_trans h.2 hk⟩
theorem sh_int {n : Nat} {i : Int} : Sh n (.int i) := ⟨rfl, Nat.zero_le _⟩
theorem sh_bool {n : Nat} {b : Bool} : Sh n (.bool b) := ⟨rfl, Nat.zero_le _⟩
theorem sh_none {n : Nat} : Sh n .none := ⟨rfl, Nat.zero_le _⟩
theorem sh_str {n : Nat} {x : Str} (h : PyData.strOk x = true) : Sh n (.str x) := ⟨by simpa [PyData.canLay0] using h, Nat.zero_le _⟩
theorem shs {n : Nat} : ∀ {ds : List PyData}, (∀ d ∈ ds, Sh n d) → PyData.canLayAll0 ds = true ∧ PyData.depthAll ds ≤ n
  | [], _ => ⟨rfl, Nat.zero_le _⟩
  | d :: ds, h => by
    obtain ⟨h1, h2⟩ := h d List.mem_cons_self
    obtain ⟨h3, h4⟩ := shs fun e he => h e (List.mem_cons_of_mem _ he)
    refine ⟨?_, ?_⟩
    · show (d.canLay0 && PyData.canLayAll0 ds) = true
      rw [h1, h3]; rfl
    · show max d.depth (PyData.depthAll ds) ≤ n
      omega
theorem sh_list {n : Nat} {ds : List PyData} (h : ∀ d ∈ ds, Sh n d) : Sh (n + 1) (.list ds) := (by
  obtain ⟨h1, h2⟩ := shs h
  exact ⟨by simpa [PyData.canLay0] using h1, by show PyData.depthAll ds + 1 ≤ n + 1; omega⟩)
theorem sh_tup {n : Nat} {ds : List PyData} (h : ∀ d ∈ ds, Sh n d) : Sh (n + 1) (.tuple ds) := (by
  obtain ⟨h1, h2⟩ := shs h
  exact ⟨by simpa [PyData.canLay0] using h1, by show PyData.depthAll ds + 1 ≤ n + 1; omega⟩)
theorem sh_map {α : Type} {n : Nat} {f : α → PyData} {xs : List α} (h : ∀ x, x ∈ xs → Sh n (f x)) : Sh (n + 1) (.list (xs.map f)) := sh_list fun d hd => by
  obtain ⟨x, hx, rfl⟩ := List.mem_map.mp hd
  exact h x hx
theorem sh_dI {ns : List Int} : Sh 1 (dI ns) := sh_map (n := 0) fun _ _ => sh_int
theorem sh_dSets {ss : List (List Int)} : Sh 2 (dSets ss) := sh_map (n := 1) fun _ _ => sh_dI
theorem sh_t1 {n : Nat} {a : PyData} (h : Sh n a) : Sh (n + 1) (.tuple [a]) := sh_tup (by simpa using h)
theorem sh_t2 {n : Nat} {a b : PyData} (h : Sh n a) (h2 : Sh n b) : Sh (n + 1) (.tuple [a, b]) := sh_tup (by simpa using ⟨h, h2⟩)
theorem sh_t3 {n : Nat} {a b c : PyData} (h : Sh n a) (h2 : Sh n b) (h3 : Sh n c) : Sh (n + 1) (.tuple [a, b, c]) := sh_tup (by simpa using ⟨h, h2, h3⟩)
theorem sh_t4 {n : Nat} {a b c d : PyData} (h : Sh n a) (h2 : Sh n b) (h3 : Sh n c) (h4 : Sh n d) : Sh (n + 1) (.tuple [a, b, c, d]) := sh_tup (by simpa using ⟨h, h2, h3, h4⟩)
theorem sh_dPair {p : Nat × Int} : Sh 1 (dPair p) := sh_t2 (n := 0) sh_int sh_int
theorem sh_dPairs {ps : List (Nat × Int)} : Sh 2 (dPairs ps) := sh_map (n := 1) fun _ _ => sh_dPair
mutual
theorem eqv_self : ∀ {d : PyData}, d.canLay0 = true → PyData.eqv d d = true
  | .none, _ => rfl
  | .bool b, _ => by simp [PyData.eqv]
  | .int i, _ => by simp [PyData.eqv]
  | .str x, _ => by simp [PyData.eqv]
  | .list xs, h => by
    have h' : PyData.canLayAll0 xs = true := by simpa [PyData.canLay0] using h
    simpa [PyData.eqv] using eqvs_self h'
  | .tuple xs, h => by
    have h' : PyData.canLayAll0 xs = true := by simpa [PyData.canLay0] using h
    simpa [PyData.eqv] using eqvs_self h'
  | .dict _, h => by simp [PyData.canLay0] at h
theorem eqvs_self : ∀ {ds : List PyData}, PyData.canLayAll0 ds = true → PyData.eqvAll ds ds = true
  | [], _ => rfl
  | d :: ds, h => by
    have h' : d.canLay0 = true ∧ PyData.canLayAll0 ds = true := by simpa [PyData.canLayAll0] using h
    show (PyData.eqv d d && PyData.eqvAll ds ds) = true
    rw [eqv_self h'.1, eqvs_self h'.2]; rfl
end
theorem eqv_sh {n : Nat} {d : PyData} (h : Sh n d) : PyData.eqv d d = true := eqv_self h.1
/-! no bools, no dicts: == is sameness -/
mutual
def nb : PyData → Bool
  | .none => true
  | .bool _ => false
  | .int _ => true
  | .str _ => true
  | .list xs => nbs xs
  | .tuple xs => nbs xs
  | .dict _ => false
def nbs : List PyData → Bool
  | [] => true
  | x :: xs => nb x && nbs xs
end
mutual
theorem eqv_eq : ∀ {d e : PyData}, nb d = true → nb e = true → PyData.eqv d e = true → d = e
  | .none, e, _, he, h => by
    cases e <;> first | rfl | (simp [PyData.eqv] at h; done) | (simp [nb] at he; done)
  | .int i, e, _, he, h => by
    cases e <;> first | (simp [PyData.eqv] at h; subst h; rfl) | (simp [PyData.eqv] at h; done) | (simp [nb] at he; done)
  | .str x, e, _, he, h => by
    cases e <;> first | (simp [PyData.eqv] at h; subst h; rfl) | (simp [PyData.eqv] at h; done) | (simp [nb] at he; done)
  | .list xs, e, hd, he, h => by
    cases e <;> first | (simp [PyData.eqv] at h; rw [eqvs_eq (by simpa [nb] using hd) (by simpa [nb] using he) h]) | (simp [PyData.eqv] at h; done) | (simp [nb] at he; done)
  | .tuple xs, e, hd, he, h => by
    cases e <;> first | (simp [PyData.eqv] at h; rw [eqvs_eq (by simpa [nb] using hd) (by simpa [nb] using he) h]) | (simp [PyData.eqv] at h; done) | (simp [nb] at he; done)
  | .bool _, _, hd, _, _ => by simp [nb] at hd
  | .dict _, _, hd, _, _ => by simp [nb] at hd
theorem eqvs_eq : ∀ {ds es : List PyData}, nbs ds = true → nbs es = true → PyData.eqvAll ds es = true → ds = es
  | [], [], _, _, _ => rfl
  | [], _ :: _, _, _, h => by simp [PyData.eqvAll] at h
  | _ :: _, [], _, _, h => by simp [PyData.eqvAll] at h
  | d :: ds, e :: es, hd, he, h => by
    have h1 : nb d = true ∧ nbs ds = true := by simpa [nbs] using hd
    have h2 : nb e = true ∧ nbs es = true := by simpa [nbs] using he
    have h3 : PyData.eqv d e = true ∧ PyData.eqvAll ds es = true := by simpa [PyData.eqvAll] using h
    rw [eqv_eq h1.1 h2.1 h3.1, eqvs_eq h1.2 h2.2 h3.2]
end
theorem nbs_map {α : Type} {f : α → PyData} : ∀ {xs : List α}, (∀ x ∈ xs, nb (f x) = true) → nbs (xs.map f) = true
  | [], _ => rfl
  | x :: xs, h => by
    show (nb (f x) && nbs (xs.map f)) = true
    rw [h x List.mem_cons_self, nbs_map fun y hy => h y (List.mem_cons_of_mem _ hy)]; rfl
theorem nb_dI {ns : List Int} : nb (dI ns) = true := nbs_map fun _ _ => rfl
theorem nb_dSets {ss : List (List Int)} : nb (dSets ss) = true := nbs_map fun _ _ => nb_dI
theorem nb_dPairs {ps : List (Nat × Int)} : nb (dPairs ps) = true := nbs_map fun _ _ => rfl
theorem eqv_iff {n : Nat} {d e : PyData} (h : Sh n d) (h1 : nb d = true) (h2 : nb e = true) : PyData.eqv d e = true ↔ d = e := ⟨fun q => eqv_eq h1 h2 q, fun q => by rw [← q]; exact eqv_sh h⟩
theorem map_inj {α β : Type} {f : α → β} (hf : ∀ x y, f x = f y → x = y) : ∀ {xs ys : List α}, xs.map f = ys.map f → xs = ys
  | [], [], _ => rfl
  | [], _ :: _, h => by simp at h
  | _ :: _, [], h => by simp at h
  | x :: xs, y :: ys, h => by
    simp only [List.map_cons, List.cons.injEq] at h
    rw [hf x y h.1, map_inj hf h.2]
theorem dI_inj {xs ys : List Int} (h : dI xs = dI ys) : xs = ys := map_inj (f := PyData.int) (fun x y h => by injection h) (by injection h)
theorem dSets_inj {xs ys : List (List Int)} (h : dSets xs = dSets ys) : xs = ys := map_inj (f := dI) (fun x y h => dI_inj h) (by injection h)
section
variable {K : PySem.W.Frag} {m : Mem} {Q : S → Mem → Prop}
/-- == of one and the same -/
theorem eq_self {n : Nat} {d : PyData} (h : Sh n d) (q : Q (.d (.bool true)) m) (hn : n ≤ 64 := by decide) : LO K (rEQ K) (.d d) (.d d) m Q := eq_d (sh_ok h hn) (sh_ok h hn) (by rw [eqv_sh h]; exact q)
theorem ne_self {n : Nat} {d : PyData} (h : Sh n d) (q : Q (.d (.bool false)) m) (hn : n ≤ 64 := by decide) : LO K (rNE K) (.d d) (.d d) m Q := ne_d (sh_ok h hn) (sh_ok h hn) (by rw [eqv_sh h]; exact q)
theorem eq_no {n k : Nat} {d e : PyData} {c : Bool} (hc : c = true ↔ d = e) (h : Sh n d) (h2 : Sh k e) (h3 : nb d = true) (h4 : nb e = true) (q : Q (.d (.bool c)) m) (hn : n ≤ 64 := by decide) (hk : k ≤ 64 := by decide) : LO K (rEQ K) (.d d) (.d e) m Q := eq_d (sh_ok h hn) (sh_ok h2 hk) (by
  have e1 : PyData.eqv d e = c := Bool.eq_iff_iff.mpr ((eqv_iff h h3 h4).trans hc.symm)
  rw [e1]; exact q)
theorem ne_no {n k : Nat} {d e : PyData} {c : Bool} (hc : c = true ↔ d = e) (h : Sh n d) (h2 : Sh k e) (h3 : nb d = true) (h4 : nb e = true) (q : Q (.d (.bool (!c))) m) (hn : n ≤ 64 := by decide) (hk : k ≤ 64 := by decide) : LO K (rNE K) (.d d) (.d e) m Q := ne_d (sh_ok h hn) (sh_ok h2 hk) (by
  have e1 : PyData.eqv d e = c := Bool.eq_iff_iff.mpr ((eqv_iff h h3 h4).trans hc.symm)
  rw [e1]; exact q)
end
/-! texts -/
theorem op_smulX {X : Cx} : OpR X (binaryOp .Mult) (fun x y H Q => ∃ z n, x = .str z ∧ y = .int n ∧ z.length ≤ 1000 ∧ n ≤ 1000 ∧ -1000 ≤ n ∧ Q (.str (Txt.mul z n)) H) := (by
  intro pins s σ H x y v u Q I rx ry h
  obtain ⟨z, n, rfl, rfl, hz, hn, hm, q⟩ := h
  obtain ⟨t, rfl⟩ := rx
  obtain ⟨t', rfl⟩ := ry
  refine PySem.SB.mul ⟨?_, fun h1 h2 => ?_, fun h1 h2 => ?_⟩ fun t' k => ⟨.str _, H, I.tok _, ⟨_, rfl⟩, q⟩
  · have a : ¬ n < -(2 ^ 63 : Int) := by omega
    have b : ¬ n ≥ 2 ^ 63 := by omega
    rw [decide_eq_false a, decide_eq_false b]; rfl
  · have hp : 0 < n := by omega
    have : (1000 : Int) ≤ (2 ^ 63 - 1) / n := by
      rw [Int.le_ediv_iff_mul_le hp]; omega
    omega
  · have : z.length * n.toNat ≤ 1000 * 1000 := Nat.mul_le_mul hz (by omega)
    unfold Builtin.Str.tooLong
    exact decide_eq_false (by have := sz_ok (n := 1000000) (Nat.le_refl _); omega))
def rSmul : R2 := fun x y H Q => ∃ z n, x = .str z ∧ y = .int n ∧ z.length ≤ 1000 ∧ n ≤ 1000 ∧ -1000 ≤ n ∧ Q (.str (Txt.mul z n)) H
theorem op_smul {X : Cx} : OpR X (binaryOp .Mult) rSmul := op_smulX
section
variable {K : PySem.W.Frag} {m : Mem} {Q : S → Mem → Prop}
theorem smul_s {z : Str} {n : Int} (h1 : z.length ≤ 1000) (h2 : n ≤ 1000) (h3 : -1000 ≤ n) (q : Q (.d (.str (Txt.mul z n))) m) : LO K rSmul (.d (.str z)) (.d (.int n)) m Q := fun v u F R H Q' a b c k => by
  cases a; cases b
  exact ⟨z, n, rfl, rfl, h1, h2, h3, k _ (.d (.str (Txt.mul z n))) F m H (Same.refl F) c (Dq.str _) q⟩
end
end DL

namespace DL
open PySem PySem.Spec PyProof.Rows L2
section
variable {K : PySem.W.Frag} {Γ : Sl} {m m1 : Mem} {Q : S → Mem → Prop} {te : TE} {tt : TT} {tb : TS} {g : TG} {nx : Sl → Mem → Prop} {rt : S → Mem → Prop} {G : Mem → Prop} {ds : List S} {ws : List Nat}
theorem take_pre {α : Type} {xs : List α} {i : Nat} {x : α} (h : xs[i]? = some x) : xs = xs.take i ++ x :: xs.drop (i + 1) := (by
  obtain ⟨hl, he⟩ := List.getElem?_eq_some_iff.mp h
  subst he
  rw [← List.drop_eq_getElem_cons hl, List.take_append_drop])
theorem take_snoc {α : Type} {xs : List α} {i : Nat} {x : α} (h : xs[i]? = some x) : xs.take (i + 1) = xs.take i ++ [x] := (by
  rw [List.take_add_one, h]; rfl)
def FORP (K : PySem.W.Frag) (g : TG) (tb : TS) (Γ : Sl) (nx : Sl → Mem → Prop) (rt : S → Mem → Prop) (ds : List S) (G : Mem → Prop) (m1 : Mem) : Prop := ∃ I : Nat → Sl → Mem → Prop, I 0 Γ m1 ∧
      (∀ i x Γ' m', ds[i]? = some x → I i Γ' m' → G m' ∧ ARG K g x Γ' m' fun Γ2 m2 => ARS K tb Γ2 m2 ⟨I (i + 1), rt, nx, I (i + 1)⟩) ∧
      (∀ Γ' m', I ds.length Γ' m' → G m' ∧ nx Γ' m')
def LCD (K : PySem.W.Frag) (g : TG) (tt : TT) (te : TE) (ws : List Nat) (Γ : Sl) (Q : S → Mem → Prop) (ds : List S) (G : Mem → Prop) (m1 : Mem) : Prop := ds.length ≤ 900000 ∧ ∃ J : Nat → List PyData → Mem → Prop, J 0 [] m1 ∧
      (∀ i x acc m', ds[i]? = some x → J i acc m' → G m' ∧ ARGw K ws g x (wipeS Γ ws) m' fun Γ2 m2 => ART K tt Γ2 m2 fun b m3 => if b = true then AR K te Γ2 m3 fun y m4 => ∃ d, y = .d d ∧ J (i + 1) (acc ++ [d]) m4 else J (i + 1) acc m3) ∧
      (∀ acc m', J ds.length acc m' → acc.length ≤ ds.length → G m' ∧ Q (.d (.list acc)) m')
theorem ars_forP {wi : TI} {D : AD} (h : ARI K wi Γ m fun ds G m1 => FORP K g tb Γ D.nx D.rt ds G m1) : ARS K (tFor wi g tb) Γ m D := ars_for h
theorem ar_lcDP {wi : TI} (h : ARI K wi Γ m fun ds G m1 => LCD K g tt te ws Γ Q ds G m1) : AR K (tLc wi g tt te ws) Γ m Q := ar_lcD h
/-- a for over what comes of xs, by the part taken -/
theorem for_pre {α : Type} (xs : List α) (F : α → S) (hds : ds = xs.map F) (I : List α → Sl → Mem → Prop) (hG : ∀ pre Γ' m', I pre Γ' m' → G m') (h0 : I [] Γ m1)
    (hs : ∀ pre x post Γ' m', xs = pre ++ x :: post → I pre Γ' m' → ARG K g (F x) Γ' m' fun Γ2 m2 => ARS K tb Γ2 m2 ⟨I (pre ++ [x]), rt, nx, I (pre ++ [x])⟩)
    (hd : ∀ Γ' m', I xs Γ' m' → nx Γ' m') : FORP K g tb Γ nx rt ds G m1 := by
  subst hds
  refine ⟨fun i => I (xs.take i), h0, fun i x Γ' m' hx hi => ?_, fun Γ' m' hi => ?_⟩
  · rw [List.getElem?_map] at hx
    cases e : xs[i]? with
    | none => rw [e] at hx; cases hx
    | some y =>
      rw [e] at hx; cases hx
      refine ⟨hG _ _ _ hi, ?_⟩
      have z := hs _ y _ Γ' m' (take_pre e) hi
      rw [← take_snoc e] at z
      exact z
  · have hi : I (xs.take (xs.map F).length) Γ' m' := hi
    rw [List.length_map, List.take_length] at hi
    exact ⟨hG _ _ _ hi, hd _ _ hi⟩
/-- a for over a range, by the turn -/
theorem for_rng {lo : Int} {n : Nat} (I : Nat → Sl → Mem → Prop) (h0 : I 0 Γ m1)
    (hs : ∀ (i : Nat) Γ' m', i < n → I i Γ' m' → ARG K g (.d (.int (lo + i))) Γ' m' fun Γ2 m2 => ARS K tb Γ2 m2 ⟨I (i + 1), rt, nx, I (i + 1)⟩)
    (hd : ∀ Γ' m', I n Γ' m' → nx Γ' m') : FORP K g tb Γ nx rt (rgS lo n) G0 m1 := by
  refine ⟨I, h0, fun i x Γ' m' hx hi => ?_, fun Γ' m' hi => ?_⟩
  · obtain ⟨rfl, hlt⟩ := rgS_get hx
    exact ⟨True.intro, hs i Γ' m' hlt hi⟩
  · rw [rgS_len] at hi
    exact ⟨True.intro, hd _ _ hi⟩
/-- a comprehension that leaves the memory as it is: what it makes, item by item -/
theorem lc_pure {α : Type} (xs : List α) (F : α → S) (hds : ds = xs.map F) (p : α → Bool) (h : α → PyData) (hn : xs.length ≤ 900000) (hG : G m1)
    (hs : ∀ x, x ∈ xs → ARGw K ws g (F x) (wipeS Γ ws) m1 fun Γ2 m2 => ART K tt Γ2 m2 fun b m3 => b = p x ∧ m3 = m1 ∧ (p x = true → AR K te Γ2 m1 fun y m4 => y = .d (h x) ∧ m4 = m1))
    (q : Q (.d (.list ((xs.filter p).map h))) m1) : LCD K g tt te ws Γ Q ds G m1 := by
  subst hds
  refine ⟨by rw [List.length_map]; exact hn, fun i acc m' => m' = m1 ∧ acc = ((xs.take i).filter p).map h, ⟨rfl, rfl⟩, fun i x acc m' hx hj => ?_, fun acc m' hj _ => ?_⟩
  · obtain ⟨rfl, rfl⟩ := hj
    rw [List.getElem?_map] at hx
    cases e : xs[i]? with
    | none => rw [e] at hx; cases hx
    | some y =>
      rw [e] at hx; cases hx
      refine ⟨hG, fun v σ F' R H Q' rv gg c k => hs y (List.mem_of_getElem? e) v σ F' R H Q' rv gg c fun σ' Γ' F2 m' H' w e' g' c' q' => k σ' Γ' F2 m' H' w e' g' c' (art_mono q' fun b m3 hq => ?_)⟩
      obtain ⟨rfl, rfl, hy⟩ := hq
      cases hp : p y with
      | true =>
        refine ar_mono (hy hp) fun z m4 hz => ⟨h y, hz.1, hz.2, ?_⟩
        rw [take_snoc e, List.filter_append, List.map_append]
        simp [hp]
      | false =>
        refine ⟨rfl, ?_⟩
        rw [take_snoc e, List.filter_append, List.map_append]
        simp [hp]
  · obtain ⟨rfl, rfl⟩ := hj
    rw [List.length_map, List.take_length]
    exact ⟨hG, q⟩
/-- .. without a test -/
theorem lc_map {α : Type} (xs : List α) (F : α → S) (hds : ds = xs.map F) (h : α → PyData) (hn : xs.length ≤ 900000) (hG : G m1)
    (hs : ∀ x, x ∈ xs → ARGw K ws g (F x) (wipeS Γ ws) m1 fun Γ2 m2 => m2 = m1 ∧ AR K te Γ2 m1 fun y m4 => y = .d (h x) ∧ m4 = m1)
    (q : Q (.d (.list (xs.map h))) m1) : LCD K g tYes te ws Γ Q ds G m1 :=
  lc_pure xs F hds (fun _ => true) h hn hG (fun x hx v σ F' R H Q' rv gg c k => hs x hx v σ F' R H Q' rv gg c fun σ' Γ' F2 m' H' w e' g' c' q' => k σ' Γ' F2 m' H' w e' g' c' (art_yes ⟨rfl, q'.1, fun _ => q'.2⟩)) (by
    rw [List.filter_eq_self.mpr fun _ _ => rfl]; exact q)
/-- a comprehension whose items change the memory: J by the part taken, what it has made, the memory -/
theorem lc_mem {α : Type} (xs : List α) (F : α → S) (hds : ds = xs.map F) (J : List α → List PyData → Mem → Prop) (hn : xs.length ≤ 900000) (hG : ∀ pre acc m', J pre acc m' → G m') (h0 : J [] [] m1)
    (hs : ∀ pre x post acc m', xs = pre ++ x :: post → J pre acc m' → ARGw K ws g (F x) (wipeS Γ ws) m' fun Γ2 m2 => ART K tt Γ2 m2 fun b m3 => if b = true then AR K te Γ2 m3 fun y m4 => ∃ d, y = .d d ∧ J (pre ++ [x]) (acc ++ [d]) m4 else J (pre ++ [x]) acc m3)
    (q : ∀ acc m', J xs acc m' → acc.length ≤ xs.length → Q (.d (.list acc)) m') : LCD K g tt te ws Γ Q ds G m1 := by
  subst hds
  refine ⟨by rw [List.length_map]; exact hn, fun i acc m' => J (xs.take i) acc m', h0, fun i x acc m' hx hj => ?_, fun acc m' hj hl => ?_⟩
  · rw [List.getElem?_map] at hx
    cases e : xs[i]? with
    | none => rw [e] at hx; cases hx
    | some y =>
      rw [e] at hx; cases hx
      refine ⟨hG _ _ _ hj, ?_⟩
      have z := hs _ y _ acc m' (take_pre e) hj
      rw [← take_snoc e] at z
      exact z
  · have hj : J (xs.take (xs.map F).length) acc m' := hj
    rw [List.length_map, List.take_length] at hj
    rw [List.length_map] at hl
    exact ⟨hG _ _ _ hj, q acc m' hj hl⟩
/-- items of a range -/
theorem rgS_map {lo : Int} {n : Nat} : rgS lo n = (List.range n).map fun (k : Nat) => S.d (.int (lo + k)) := rfl
theorem dmap {α : Type} {f : α → PyData} {xs : List α} : (xs.map f).map S.d = xs.map fun x => S.d (f x) := by rw [List.map_map]; rfl
theorem enS_map {α : Type} {f : α → PyData} {xs : List α} : enS (xs.map f) = xs.zipIdx.map fun p => S.d (.tuple [.int (p.2 : Nat), f p.1]) := (by
  unfold enS
  rw [List.zipIdx_map, List.map_map]; rfl)
theorem zpS_map {α β : Type} {f : α → PyData} {h : β → PyData} {xs : List α} {ys : List β} : zpS (xs.map f) (ys.map h) = (xs.zip ys).map fun p => S.d (.tuple [f p.1, h p.2]) := (by
  unfold zpS
  rw [List.zip_map, List.map_map]; rfl)
theorem rmap {α : Type} {f : α → PyData} {xs : List α} : (xs.map f).reverse.map S.d = xs.reverse.map fun x => S.d (f x) := by rw [← List.map_reverse, dmap]
end
theorem lf_in {n : Nat} {fs : FS} {xs : List S} {m : Mem} {Z : S → Mem → Prop} (h : xs.length = n) (q : fs xs m Z) : LF n fs xs m Z := ⟨h, q⟩
def unS : S → PyData
  | .d x => x
  | _ => .none
def unI : PyData → Int
  | .int i => i
  | _ => 0
theorem ex_dsn {xs : List S} {P : List PyData → Prop} (h : (xs.map unS).map S.d = xs) (q : P (xs.map unS)) : ∃ ds : List PyData, xs = ds.map S.d ∧ P ds := ⟨_, h.symm, q⟩
theorem ix_lit {K : PySem.W.Frag} {m : Mem} {Q : S → Mem → Prop} {ds : List PyData} {i : Int} (hi : (ds.map unI).map PyData.int = ds) (h0 : 0 ≤ i) (h1 : i < ds.length) (q : ∀ n, n ∈ ds.map unI → Q (.d (.int n)) m) : LO K (rIX K) (.d (.list ds)) (.d (.int i)) m Q := (by
  rw [← hi]
  exact ix_any h0 (by rw [List.length_map]; exact h1) q)
theorem mset_swap {m : Mem} {a p : Addr} {c c' d : C} (h : a ≠ p) : mset (mset (mset m a c) p d) a c' = mset (mset m a c') p d := (by
  rw [mset_comm h, mset_mset, mset_comm h.symm])
theorem mset_nn {m : Mem} {a p : Addr} {c : C} (h : mset m a c p = none) : a ≠ p ∧ m p = none := (by
  have h1 : a ≠ p := by rintro rfl; rw [mset_same] at h; cases h
  exact ⟨h1, by rw [mset_ne h1.symm] at h; exact h⟩)
theorem at_last {α : Type} {xs : List α} (h : xs ≠ []) : ∃ x, atI xs (-1) = some x ∧ x ∈ xs := (by
  refine ⟨xs.getLast h, ?_, List.getLast_mem h⟩
  have e := List.dropLast_concat_getLast h
  have z := atI_last xs.dropLast (xs.getLast h)
  rw [e] at z
  exact z)
theorem tys_o {K : PySem.W.Frag} {m : Mem} {a : Addr} {xs : List S} (h : m a = some (.lst xs)) : TyS K "list" (.r a) m := .inl ⟨rfl, xs, h⟩
theorem tys_s {K : PySem.W.Frag} {m : Mem} {x : Str} : TyS K "str" (.d (.str x)) m := rfl
theorem tys_l {K : PySem.W.Frag} {m : Mem} {x : List PyData} : TyS K "list" (.d (.list x)) m := rfl
/-- an if that goes on: what stands behind it is said once (ars_cutI), or walked on each way (ars_seqI) -/
def tSeqI (t u : TS) : TS := tSeq t u
theorem pss_consI {X : Cx} {st : Stmt} {rest : List Stmt} {t u : TS} (h1 : PS X st t) (h2 : PSs X rest u) : PSs X (st :: rest) (tSeqI t u) := pss_cons h1 h2
theorem ars_seqI {K : PySem.W.Frag} {t u : TS} {Γ : Sl} {m : Mem} {D : AD} (h : ARS K t Γ m { D with nx := fun Γ' m' => ARS K u Γ' m' D }) : ARS K (tSeqI t u) Γ m D := ars_seq h
theorem ars_cutI {K : PySem.W.Frag} {t u : TS} {Γ : Sl} {m : Mem} {D : AD} (Mid : Sl → Mem → Prop) (h : ARS K t Γ m { D with nx := Mid }) (h2 : ∀ Γ' m', Mid Γ' m' → ARS K u Γ' m' D) : ARS K (tSeqI t u) Γ m D := ars_cut Mid h h2
theorem iteD {p : Prop} [Decidable p] {A B : Prop} (h1 : p → A) (h2 : ¬ p → B) : if decide p = true then A else B := (by
  by_cases h : p
  · rw [if_pos (decide_eq_true h)]; exact h1 h
  · rw [if_neg (by simp [h])]; exact h2 h)
theorem iteND {p : Prop} [Decidable p] {A B : Prop} (h1 : ¬ p → A) (h2 : p → B) : if (!decide p) = true then A else B := (by
  by_cases h : p
  · rw [if_neg (by simp [h])]; exact h2 h
  · rw [if_pos (by simp [h])]; exact h1 h)
theorem iteB {b : Bool} {A B : Prop} (h1 : b = true → A) (h2 : b = false → B) : if b = true then A else B := (by
  cases b with
  | true => exact h1 rfl
  | false => exact h2 rfl)
theorem iteNB {b : Bool} {A B : Prop} (h1 : b = false → A) (h2 : b = true → B) : if (!b) = true then A else B := (by
  cases b with
  | true => exact h2 rfl
  | false => exact h1 rfl)
section
variable {K : PySem.W.Frag} {Γ : Sl} {m1 : Mem} {tb : TS} {g : TG} {nx : Sl → Mem → Prop} {rt : S → Mem → Prop}
theorem for_r0 {n : Nat} (I : Nat → Sl → Mem → Prop) (h0 : I 0 Γ m1)
    (hs : ∀ (i : Nat) Γ' m', i < n → I i Γ' m' → ARG K g (.d (.int (i : Nat))) Γ' m' fun Γ2 m2 => ARS K tb Γ2 m2 ⟨I (i + 1), rt, nx, I (i + 1)⟩)
    (hd : ∀ Γ' m', I n Γ' m' → nx Γ' m') : FORP K g tb Γ nx rt (rgS 0 n) G0 m1 :=
  for_rng I h0 (fun i Γ' m' h1 h2 => by rw [Int.zero_add]; exact hs i Γ' m' h1 h2) hd
end
theorem iteFd {c : Bool} {A B : Prop} (h : c = false) (b : B) : if c = true then A else B := by rw [h]; exact L2.iteF b
theorem iteTd {c : Bool} {A B : Prop} (h : c = true) (b : A) : if c = true then A else B := by rw [h]; exact L2.iteT b
section
variable {K : PySem.W.Frag} {m : Mem} {Q : S → Mem → Prop}
theorem any_m {α : Type} {xs : List α} {p : α → Bool} (q : Q (.d (.bool (xs.any p))) m) : LB K (rAny K) [.d (.list (xs.map fun x => PyData.bool (p x)))] m Q := (by
  have e : (xs.map fun x => PyData.bool (p x)) = (xs.map p).map PyData.bool := by rw [List.map_map]; rfl
  rw [e]
  refine any_bs ?_
  rw [List.any_map]
  exact q)
theorem all_m {α : Type} {xs : List α} {p : α → Bool} (q : Q (.d (.bool (xs.all p))) m) : LB K (rAll K) [.d (.list (xs.map fun x => PyData.bool (p x)))] m Q := (by
  have e : (xs.map fun x => PyData.bool (p x)) = (xs.map p).map PyData.bool := by rw [List.map_map]; rfl
  rw [e]
  refine all_bs ?_
  rw [List.all_map]
  exact q)
theorem sum_m {α : Type} {xs : List α} {p : α → Int} (q : Q (.d (.int (xs.map p).sum)) m) : LB K (rSum K) [.d (.list (xs.map fun x => PyData.int (p x)))] m Q := (by
  have e : (xs.map fun x => PyData.int (p x)) = (xs.map p).map PyData.int := by rw [List.map_map]; rfl
  rw [e]
  exact sum_is q)
/-- a slice of an owned list, as data -/
theorem sl_oD {a : Addr} {ds : List PyData} {lo hi : Option Int} (hm : m a = some (.lst (ds.map S.d))) (q : Q (.d (.list (cutL ds lo hi))) m) : LS K (rSL K) (.r a) lo hi m Q := ls_l fun v F R H Q' h c k => by
  cases h
  obtain ⟨vs, hv, rv⟩ := own_lst c hm
  exact ⟨a, vs, rfl, .inl (.inl hv), fun l hl => new_D c hl (dqa_cut (rss_dpa rv)) k q⟩
end
theorem mset_at {m : Mem} {a : Addr} {c : C} : mset m a c a = some c := mset_same
end DL

namespace DL
open PySem PySem.Spec PyProof.Rows L2
/-! ### the rules with the written part named (a comprehension's block bears it under another form) -/
section
variable {X : Cx} {K : PySem.W.Frag} {pos : Pos} {e l : Expr} {es : List Expr} {te tl : TE} {t : TA} {tg : Expr}
theorem op_plusK (h : X.K = K) : OpR X (binaryOp .Add) (rPlus K) := h ▸ op_plus
theorem op_plusOK (h : X.K = K) : OpR X (binaryOp .Add) (rPlusO K) := h ▸ op_plusO
theorem op_timesK (h : X.K = K) : OpR X (binaryOp .Mult) (rTimes K) := h ▸ op_times
theorem op_fdivsK (h : X.K = K) : OpR X (binaryOp .FloorDiv) (rFdiv K) := h ▸ op_fdivs
theorem op_EQK (h : X.K = K) (hu : X.A.units + 64 < cLine) : OpR X (compareOp .Eq) (rEQ K) := h ▸ op_EQ hu
theorem op_NEK (h : X.K = K) (hu : X.A.units + 64 < cLine) : OpR X (compareOp .NotEq) (rNE K) := h ▸ op_NE hu
theorem op_INSK (h : X.K = K) (hu : X.A.units + 65 < cLine) : OpR X (compareOp .In) (rINS K) := h ▸ op_INS hu
theorem op_NINSK (h : X.K = K) (hu : X.A.units + 65 < cLine) : OpR X (compareOp .NotIn) (rNINS K) := h ▸ op_NINS hu
theorem ix_allK (h : X.K = K) : IxR X (rIX K) := h ▸ ix_all
theorem sl_allK (h : X.K = K) : SlR X (rSL K) := h ▸ sl_all
theorem sl_allOK (h : X.K = K) : SlR X (rSLO K) := h ▸ sl_allO
theorem cr_lenK (h : X.K = K) : CallR X (.builtin "len") (rLen K) := h ▸ cr_len
theorem cr_maxAK (h : X.K = K) (hc : X.calm = true) : CallR X (.builtin "max") (rMaxA K) := h ▸ cr_maxA hc
theorem cr_minAK (h : X.K = K) (hc : X.calm = true) : CallR X (.builtin "min") (rMinA K) := h ▸ cr_minA hc
theorem cr_sumK (h : X.K = K) (hc : X.calm = true) : CallR X (.builtin "sum") (rSum K) := h ▸ cr_sum hc
theorem cr_anyK (h : X.K = K) (hc : X.calm = true) : CallR X (.builtin "any") (rAny K) := h ▸ cr_any hc
theorem cr_allK (h : X.K = K) (hc : X.calm = true) : CallR X (.builtin "all") (rAll K) := h ▸ cr_all hc
theorem cr_sortedIK (h : X.K = K) : CallR X (.builtin "sorted") (rSortedI K) := h ▸ cr_sortedI
theorem call_isiK' (h : X.K = K) : CallR X (.builtin "isinstance") (rIsi K) := h ▸ call_isi
theorem cr_listOfK (h : X.K = K) : CallR X (.type "list") (rListOf K) := h ▸ cr_listOf
theorem cr_listOfOK (h : X.K = K) : CallR X (.type "list") (rListOfO K) := h ▸ cr_listOfO
theorem cr_tupOfK (h : X.K = K) : CallR X (.type "tuple") (rTupOf K) := h ▸ cr_tupOf
theorem pe_fK {k j n : Nat} {x : Str} {fs : FS} {p : Pos} (h : X.K = K) (c : Cal X.prog X.w K X.mg X.base k n x fs) (hr : Room j X.A) (hk : k ≤ j) (hg : Gl X x) (ha : PA X (e :: es) t)
    (hdb : (x == ("__debug__" : Str)) = false := by decide) (he : starEach (e :: es) X.env = (false, eval e X.env) :: starEach es X.env := by rfl) (hpl : (backTo pos (starEach es X.env)).any (·.1) = false := by rfl) :
    PE X (.Call (.Name x p) (e :: es) [] pos) (tCall (toSp K (LF n fs)) [] E0 t) := by
  subst h; exact pe_f c hr hk hg ha hdb he hpl
theorem pi_listK (h : X.K = K) (hl : PE X l tl) : PI X tg l (iList K tl) := h ▸ pi_list hl
theorem pi_tupK (h : X.K = K) (hl : PE X l tl) : PI X tg l (iTup K tl) := h ▸ pi_tup hl
theorem pi_reversedK {p : Pos} (h : X.K = K) (hg : Gl X "reversed") (hm : X.mg "reversed" = none) (ha : PA X [e] t) (hs : starEach [e] X.env = [(false, eval e X.env)] := by rfl) : PI X tg (.Call (.Name "reversed" p) [e] [] pos) (iRev K t) := h ▸ pi_reversed hg hm ha hs
theorem pi_enumK {p tpos : Pos} {elts : List Expr} {kk : Nat} (h : X.K = K) (hg : Gl X "enumerate") (hm : X.mg "enumerate" = none) (ha : PA X [e] t) (hs : starEach [e] X.env = [(false, eval e X.env)] := by rfl) :
    PI X (.Tuple elts kk tpos) (.Call (.Name "enumerate" p) [e] [] pos) (iEnum K t) := h ▸ pi_enum hg hm ha hs
theorem pi_zipK {p tpos : Pos} {e2 : Expr} {elts : List Expr} {kk : Nat} (h : X.K = K) (hg : Gl X "zip") (hm : X.mg "zip" = none) (ha : PA X [e, e2] t)
    (hs : starEach [e, e2] X.env = (false, eval e X.env) :: starEach [e2] X.env := by rfl) (hpl : (backTo pos (starEach [e2] X.env)).any (·.1) = false := by rfl) :
    PI X (.Tuple elts kk tpos) (.Call (.Name "zip" p) [e, e2] [] pos) (iZip K t) := h ▸ pi_zip hg hm ha hs hpl
theorem pg_tupK {es : List Expr} {k : Nat} {t : TGs} {n : Nat} (h : X.K = K) (hc : X.calm = true) (h1 : PGs X es t)
    (hn : (assignEach es X.env).length = n := by rfl) (hst : (assignEach es X.env).findIdx? (·.1) = none := by rfl) : PG X (.Tuple es k pos) (gTup K n t) := h ▸ pg_tup hc h1 hn hst
theorem pe_bm0K {o : Expr} {to : TE} {name : Str} {apos cpos : Pos} {T id : String} {r : V → List V → Hp → VK → Prop} (h : X.K = K) (pa : PlainAttrs T) (slot : Slot T name id) (hty : typeOf (.builtin id) = pure (.type "method_descriptor")) (hm : MtR X id r) (ho : PE X o to)
    (hbase : attributeBase o name X.env (eval o X.env) = eval o X.env := by rfl) (hline : (apos.endLine == cpos.line) = true := by rfl) : PE X (.Call (.Attribute o name apos) [] [] cpos) (tBM0 K T r to) := h ▸ pe_bm0 pa slot hty hm ho hbase hline
theorem pe_bmK {o : Expr} {to : TE} {name : Str} {apos cpos : Pos} {T id : String} {r : V → List V → Hp → VK → Prop} (h : X.K = K) (pa : PlainAttrs T) (slot : Slot T name id) (hty : typeOf (.builtin id) = pure (.type "method_descriptor")) (hm : MtR X id r) (ho : PE X o to) (ha : PA X (e :: es) t)
    (hbase : attributeBase o name X.env (eval o X.env) = eval o X.env := by rfl)
    (hfew : ((backTo cpos (starEach (e :: es) X.env)).all (fun x => !x.1) && (backToKw cpos (keywordEach [] X.env)).all (fun x => x.1.isSome)
      && decide ((e :: es).length + ([] : List Keyword).length + (if ([] : List Keyword).isEmpty then 0 else 1) < 30)) = true := by rfl)
    (hline : (apos.endLine == cpos.line) = true := by rfl) (hs : starEach (e :: es) X.env = (false, eval e X.env) :: starEach es X.env := by rfl) (hplain : (backTo cpos (starEach es X.env)).any (·.1) = false := by rfl) :
    PE X (.Call (.Attribute o name apos) (e :: es) [] cpos) (tBM K T r to t) := h ▸ pe_bm pa slot hty hm ho ha hbase hfew hline hs hplain
end
end DL

namespace DL
open PySem PySem.Spec PyProof.Rows L2
/-! ### dicts -/
section
variable {κ κ' α : Type} [DecidableEq κ] [DecidableEq κ']
def getG (kvs : List (κ × α)) (k : κ) : Option α := (kvs.find? fun kv => decide (kv.1 = k)).map (·.2)
def putG (kvs : List (κ × α)) (k : κ) (v : α) : List (κ × α) :=
  if (kvs.any fun kv => decide (kv.1 = k)) = true then kvs.map (fun kv => if kv.1 = k then (kv.1, v) else kv) else kvs ++ [(k, v)]
theorem getG_nil {k : κ} : getG ([] : List (κ × α)) k = none := rfl
theorem getG_cons {p : κ × α} {r : List (κ × α)} {k : κ} : getG (p :: r) k = if p.1 = k then some p.2 else getG r k := (by
  unfold getG
  by_cases e : p.1 = k
  · simp [List.find?_cons, e]
  · simp [List.find?_cons, e])
theorem getG_any (k : κ) : ∀ kvs : List (κ × α), (kvs.any fun kv => decide (kv.1 = k)) = (getG kvs k).isSome
  | [] => rfl
  | p :: r => by
    rw [List.any_cons, getG_cons, getG_any k r]
    by_cases e : p.1 = k <;> simp [e]
theorem getG_mapv (k j : κ) (y : α) : ∀ kvs : List (κ × α), getG (kvs.map fun kv => if kv.1 = k then (kv.1, y) else kv) j = (getG kvs j).map fun x => if j = k then y else x
  | [] => rfl
  | p :: r => by
    rw [List.map_cons, getG_cons, getG_cons, getG_mapv k j y r]
    by_cases h : p.1 = k
    · rw [if_pos h]
      by_cases h2 : p.1 = j
      · have : j = k := h2.symm.trans h
        simp [h2, this]
      · simp [h2]
    · rw [if_neg h]
      by_cases h2 : p.1 = j
      · have : ¬ j = k := fun e => h (h2.trans e)
        simp [h2, this]
      · simp [h2]
theorem getG_snoc (k j : κ) (y : α) : ∀ kvs : List (κ × α), getG kvs k = none → getG (kvs ++ [(k, y)]) j = if j = k then some y else getG kvs j
  | [], _ => by
    rw [List.nil_append, getG_cons]
    by_cases e : k = j
    · simp [e]
    · have : ¬ j = k := fun z => e z.symm
      simp [e, this]
  | p :: r, hn => by
    rw [getG_cons] at hn
    by_cases h : p.1 = k
    · rw [if_pos h] at hn; cases hn
    · rw [if_neg h] at hn
      rw [List.cons_append, getG_cons, getG_cons, getG_snoc k j y r hn]
      by_cases h2 : p.1 = j
      · have : ¬ j = k := fun z => h (h2.trans z)
        simp [h2, this]
      · simp [h2]
theorem getG_put (kvs : List (κ × α)) (k j : κ) (y : α) : getG (putG kvs k y) j = if j = k then some y else getG kvs j := (by
  unfold putG
  by_cases a : (kvs.any fun kv => decide (kv.1 = k)) = true
  · rw [if_pos a, getG_mapv]
    rw [getG_any] at a
    by_cases e : j = k
    · obtain ⟨x, hx⟩ := Option.isSome_iff_exists.mp a
      rw [e, hx]; simp
    · simp [e]
  · rw [if_neg a]
    rw [getG_any] at a
    exact getG_snoc k j y kvs (by simpa using a))
theorem putG_new {kvs : List (κ × α)} {k : κ} (v : α) (h : getG kvs k = none) : putG kvs k v = kvs ++ [(k, v)] := (by
  unfold putG
  rw [getG_any, h]
  exact if_neg (by simp))
theorem putG_keys {kvs : List (κ × α)} {k : κ} (v : α) (h : (getG kvs k).isSome = true) : (putG kvs k v).map (·.1) = kvs.map (·.1) := (by
  unfold putG
  rw [getG_any, if_pos h, List.map_map]
  apply List.map_congr_left
  intro p _
  show (if p.1 = k then (p.1, v) else p).1 = p.1
  split <;> rfl)
theorem putG_len {kvs : List (κ × α)} {k : κ} {v : α} : (putG kvs k v).length ≤ kvs.length + 1 := (by
  unfold putG
  split
  · simp
  · simp)
theorem getG_mem {kvs : List (κ × α)} {k : κ} : (getG kvs k).isSome = true ↔ k ∈ kvs.map (·.1) := (by
  rw [← getG_any, List.any_eq_true]
  constructor
  · rintro ⟨p, hp, e⟩
    exact List.mem_map.mpr ⟨p, hp, of_decide_eq_true e⟩
  · intro h
    obtain ⟨p, hp, e⟩ := List.mem_map.mp h
    exact ⟨p, hp, decide_eq_true e⟩)
theorem putG_mem {kvs : List (κ × α)} {k j : κ} {v : α} : j ∈ (putG kvs k v).map (·.1) ↔ j = k ∨ j ∈ kvs.map (·.1) := (by
  rw [← getG_mem, ← getG_mem, getG_put]
  by_cases e : j = k <;> simp [e])
theorem putG_nodup {kvs : List (κ × α)} {k : κ} {v : α} (h : (kvs.map (·.1)).Nodup) : ((putG kvs k v).map (·.1)).Nodup := (by
  by_cases hs : (getG kvs k).isSome = true
  · rw [putG_keys v hs]; exact h
  · rw [putG_new v (by simpa using hs), List.map_append]
    refine List.nodup_append.mpr ⟨h, by simp, fun a ha b hb => ?_⟩
    simp at hb
    subst hb
    rintro rfl
    exact hs (getG_mem.mpr ha))
/-- keys put into another kind of key -/
theorem getG_map {f : κ → κ'} (hf : ∀ x y, f x = f y → x = y) (k : κ) : ∀ kvs : List (κ × α), getG (kvs.map fun p => (f p.1, p.2)) (f k) = getG kvs k
  | [] => rfl
  | p :: r => by
    rw [List.map_cons, getG_cons, getG_cons, getG_map hf k r]
    by_cases e : p.1 = k
    · simp [e]
    · have : ¬ f p.1 = f k := fun z => e (hf _ _ z)
      simp [e, this]
theorem putG_map {f : κ → κ'} (hf : ∀ x y, f x = f y → x = y) (k : κ) (v : α) (kvs : List (κ × α)) : putG (kvs.map fun p => (f p.1, p.2)) (f k) v = (putG kvs k v).map fun p => (f p.1, p.2) := (by
  unfold putG
  rw [getG_any, getG_any, getG_map hf]
  split
  · rw [List.map_map, List.map_map]
    apply List.map_congr_left
    intro p _
    show (if f p.1 = f k then (f p.1, v) else (f p.1, p.2)) = _
    by_cases e : p.1 = k
    · simp [e]
    · have : ¬ f p.1 = f k := fun z => e (hf _ _ z)
      simp [e, this]
  · rw [List.map_append]; rfl)
theorem pr_get_val {P : V → α → Prop} {k : κ} : ∀ {vs : List (κ × V)} {ks : List (κ × α)}, Paired (fun p q => p.1 = q.1 ∧ P p.2 q.2) vs ks → (∀ x, getG ks k = some x → ∃ v, valV vs k = some v ∧ P v x) ∧ (getG ks k = none → valV vs k = none)
  | _, _, .nil => ⟨fun x h => by (rw [getG_nil] at h; cases h), fun _ => rfl⟩
  | _, _, .cons (a := p) (b := q) ⟨h1, h2⟩ t => by
    have ih := pr_get_val (k := k) t
    rw [getG_cons]
    by_cases e : q.1 = k
    · rw [if_pos e, valV_pos (h1.trans e)]
      exact ⟨fun x hx => ⟨_, rfl, by cases hx; exact h2⟩, fun hx => by cases hx⟩
    · rw [if_neg e, valV_neg (fun z => e (h1.symm.trans z))]
      exact ih
theorem pr_put_val {P : V → α → Prop} {k : κ} {v : V} {x : α} (hv : P v x) {vs : List (κ × V)} {ks : List (κ × α)} (h : Paired (fun p q => p.1 = q.1 ∧ P p.2 q.2) vs ks) : Paired (fun p q => p.1 = q.1 ∧ P p.2 q.2) (putK vs k v) (putG ks k x) := (by
  have e : (vs.any fun kv => decide (kv.1 = k)) = (ks.any fun kv => decide (kv.1 = k)) := by
    induction h with
    | nil => rfl
    | cons h _ ih => rw [List.any_cons, List.any_cons, ih, h.1]
  unfold putK putG
  rw [e]
  split
  · clear e
    rename_i hh
    clear hh
    induction h with
    | nil => exact .nil
    | @cons p q ps qs h _ ih =>
      refine .cons ?_ ih
      show (if p.1 = k then (p.1, v) else p).1 = (if q.1 = k then (q.1, x) else q).1 ∧ P (if p.1 = k then (p.1, v) else p).2 (if q.1 = k then (q.1, x) else q).2
      by_cases e : p.1 = k
      · rw [if_pos e, if_pos (h.1.symm.trans e)]; exact ⟨h.1, hv⟩
      · rw [if_neg e, if_neg (fun z => e (h.1.trans z))]; exact h
  · exact pr_app h (.cons ⟨rfl, hv⟩ .nil))
end
/-- a dict whose keys are ints; texts; pairs of ints -/
def cI (kvs : List (Int × S)) : C := .dK (kvs.map fun p => (Sum.inl p.1, p.2))
def cS (kvs : List (Str × S)) : C := .dK (kvs.map fun p => (Sum.inr p.1, p.2))
def cP (kvs : List ((Int × Int) × S)) : C := .dT (kvs.map fun p => ([Sum.inl p.1.1, Sum.inl p.1.2], p.2))
theorem inl_inj : ∀ x y : Int, (Sum.inl x : Key) = Sum.inl y → x = y := fun _ _ h => Sum.inl.inj h
theorem inr_inj : ∀ x y : Str, (Sum.inr x : Key) = Sum.inr y → x = y := fun _ _ h => Sum.inr.inj h
theorem pp_inj : ∀ x y : Int × Int, ([Sum.inl x.1, Sum.inl x.2] : List Key) = [Sum.inl y.1, Sum.inl y.2] → x = y := fun x y h => by
  simp only [List.cons.injEq, Sum.inl.injEq, and_true] at h
  exact Prod.ext h.1 h.2
section
variable {K : PySem.W.Frag} {Γ : Sl} {m : Mem} {Q : S → Mem → Prop}
theorem own_dK {m : Mem} {F R H : Hp} {a : Addr} {ks : List (Key × S)} (c : Cn K m F R H) (h : m a = some (.dK ks)) : ∃ vs, H a = some (.dK vs) ∧ Paired (fun (p : Key × V) (q : Key × S) => p.1 = q.1 ∧ RS K F p.2 q.2) vs ks := (by
  obtain ⟨_, _, o, ho, rc⟩ := c.own a _ h
  cases o with
  | dK vs => exact ⟨vs, ho, rc⟩
  | _ => exact rc.elim)
theorem own_dT {m : Mem} {F R H : Hp} {a : Addr} {ks : List (List Key × S)} (c : Cn K m F R H) (h : m a = some (.dT ks)) : ∃ vs, H a = some (.dT vs) ∧ Paired (fun (p : List Key × V) (q : List Key × S) => p.1 = q.1 ∧ RS K F p.2 q.2) vs ks := (by
  obtain ⟨_, _, o, ho, rc⟩ := c.own a _ h
  cases o with
  | dT vs => exact ⟨vs, ho, rc⟩
  | _ => exact rc.elim)
theorem ar_dnewI (q : ∀ p, m p = none → Q (.r p) (mset m p (cI []))) : AR K tDNewK Γ m Q := fun σ F R H Q' g c k p hp => k _ (.r p) F _ _ (Same.refl F) (cn_newO (o := .dK []) (x := cI []) c hp .nil) rfl (q p (cn_fresh c hp).2.1)
theorem ar_dnewS (q : ∀ p, m p = none → Q (.r p) (mset m p (cS []))) : AR K tDNewK Γ m Q := fun σ F R H Q' g c k p hp => k _ (.r p) F _ _ (Same.refl F) (cn_newO (o := .dK []) (x := cS []) c hp .nil) rfl (q p (cn_fresh c hp).2.1)
theorem ar_dnewP (q : ∀ p, m p = none → Q (.r p) (mset m p (cP []))) : AR K tDNewT Γ m Q := fun σ F R H Q' g c k p hp => k _ (.r p) F _ _ (Same.refl F) (cn_newO (o := .dT []) (x := cP []) c hp .nil) rfl (q p (cn_fresh c hp).2.1)
/-- what a key leads to -/
def Dg (K : PySem.W.Frag) (m : Mem) (a : Addr) (y : S) (o : Option S) : Prop := ∀ (F R H : Hp) (u : V), Cn K m F R H → RS K F u y → (∀ x, o = some x → ∃ v, DGet H a u (some v) ∧ RS K F v x) ∧ (o = none → DGet H a u none)
theorem dg_i {a : Addr} {kvs : List (Int × S)} {i : Int} (h : m a = some (cI kvs)) : Dg K m a (.d (.int i)) (getG kvs i) := fun F R H u c r => by
  cases r
  obtain ⟨vs, hv, rv⟩ := own_dK c h
  have z := pr_get_val (P := RS K F) (k := (Sum.inl i : Key)) rv
  rw [getG_map inl_inj] at z
  refine ⟨fun x hx => ?_, fun hx => ?_⟩
  · obtain ⟨v, h1, h2⟩ := z.1 x hx
    exact ⟨v, by rw [← h1]; exact DGet.k (k := Sum.inl i) hv, h2⟩
  · rw [← z.2 hx]; exact DGet.k (k := Sum.inl i) hv
theorem dg_s {a : Addr} {kvs : List (Str × S)} {i : Str} (h : m a = some (cS kvs)) : Dg K m a (.d (.str i)) (getG kvs i) := fun F R H u c r => by
  cases r
  obtain ⟨vs, hv, rv⟩ := own_dK c h
  have z := pr_get_val (P := RS K F) (k := (Sum.inr i : Key)) rv
  rw [getG_map inr_inj] at z
  refine ⟨fun x hx => ?_, fun hx => ?_⟩
  · obtain ⟨v, h1, h2⟩ := z.1 x hx
    exact ⟨v, by rw [← h1]; exact DGet.k (k := Sum.inr i) hv, h2⟩
  · rw [← z.2 hx]; exact DGet.k (k := Sum.inr i) hv
theorem pair_at {F : Hp} {u : V} {i j : Int} (h : Dq K F u (.tuple [.int i, .int j])) : ∃ b, u = .ref b ∧ F b = some (.tup [.int i, .int j]) := (by
  obtain ⟨b, xs, rfl, h1, h2⟩ := dp_tupH h
  cases h2 with
  | cons h2 t => cases t with
    | cons h3 t => cases t; cases h2; cases h3; exact ⟨b, rfl, h1⟩)
theorem dg_p {a : Addr} {kvs : List ((Int × Int) × S)} {i j : Int} (h : m a = some (cP kvs)) : Dg K m a (.d (.tuple [.int i, .int j])) (getG kvs (i, j)) := fun F R H u c r => by
  obtain ⟨b, rfl, hb⟩ := pair_at r
  obtain ⟨vs, hv, rv⟩ := own_dT c h
  have z := pr_get_val (P := RS K F) (k := ([Sum.inl i, Sum.inl j] : List Key)) rv
  have e := getG_map (f := fun (p : Int × Int) => ([Sum.inl p.1, Sum.inl p.2] : List Key)) pp_inj (i, j) kvs
  rw [e] at z
  have hb' : H b = some (.tup (([Sum.inl i, Sum.inl j] : List Key).map kV)) := cn_sub c _ _ hb
  refine ⟨fun x hx => ?_, fun hx => ?_⟩
  · obtain ⟨v, h1, h2⟩ := z.1 x hx
    exact ⟨v, by rw [← h1]; exact DGet.t hv hb', h2⟩
  · rw [← z.2 hx]; exact DGet.t hv hb'
theorem din_ {a : Addr} {y : S} {o : Option S} (h : Dg K m a y o) (q : Q (.d (.bool o.isSome)) m) : LO K (rINS K) y (.r a) m Q := lo_r (lo_r (lo_l fun v u F R H Q' rv ru c k => by
  cases ru
  have z := h F R H v c rv
  cases o with
  | none => exact ⟨a, none, rfl, z.2 rfl, k _ (.d (.bool false)) F m H (Same.refl F) c (Dq.bl _) q⟩
  | some x =>
    obtain ⟨w, h1, _⟩ := z.1 x rfl
    exact ⟨a, some w, rfl, h1, k _ (.d (.bool true)) F m H (Same.refl F) c (Dq.bl _) q⟩))
theorem dnotin_ {a : Addr} {y : S} {o : Option S} (h : Dg K m a y o) (q : Q (.d (.bool (!o.isSome))) m) : LO K (rNINS K) y (.r a) m Q := lo_r (lo_r fun v u F R H Q' rv ru c k => by
  cases ru
  have z := h F R H v c rv
  cases o with
  | none => exact ⟨a, none, rfl, z.2 rfl, k _ (.d (.bool true)) F m H (Same.refl F) c (Dq.bl _) q⟩
  | some x =>
    obtain ⟨w, h1, _⟩ := z.1 x rfl
    exact ⟨a, some w, rfl, h1, k _ (.d (.bool false)) F m H (Same.refl F) c (Dq.bl _) q⟩)
theorem ar_dget {td ty : TE} (h : AR K td Γ m fun o m1 => AR K ty Γ m1 fun y m2 => ∃ a x, o = .r a ∧ Dg K m2 a y (some x) ∧ Q x m2) : AR K (tDGet td ty) Γ m Q := fun σ F R H Q' g c k =>
  h σ F R H _ g c fun v o F1 m1 H1 e1 c1 r1 q1 => q1 σ F1 R H1 _ (rg_mono e1 g) c1 fun u y F2 m2 H2 e2 c2 r2 q2 => by
    obtain ⟨a, x, rfl, hd, q⟩ := q2
    obtain rfl : v = .ref a := r1
    obtain ⟨w, h1, h2⟩ := (hd F2 R H2 u c2 r2).1 x rfl
    exact ⟨a, w, rfl, h1, k w x F2 m2 H2 (e1.trans e2) c2 h2 q⟩
/-- what a store makes of it -/
def Dp_ (K : PySem.W.Frag) (m : Mem) (a : Addr) (y x : S) (c' : C) : Prop := ∀ (F R H : Hp) (u v : V), Cn K m F R H → RS K F u y → RS K F v x → ∃ H', DPut H a u v H' ∧ Cn K (mset m a c') F R H'
theorem dp_i {a : Addr} {kvs : List (Int × S)} {i : Int} {x : S} (h : m a = some (cI kvs)) (hl : kvs.length < 1000000) : Dp_ K m a (.d (.int i)) x (cI (putG kvs i x)) := fun F R H u v c ru rv => by
  cases ru
  obtain ⟨vs, hv, rs⟩ := own_dK c h
  refine ⟨_, DPut.k (k := Sum.inl i) hv (by rw [pr_len rs, List.length_map]; exact sz_lt hl), cn_set (o := .dK (putK vs (Sum.inl i) v)) c h ?_⟩
  have z := pr_put_val (P := RS K F) (k := (Sum.inl i : Key)) rv rs
  rw [putG_map inl_inj] at z
  exact z
theorem dp_s {a : Addr} {kvs : List (Str × S)} {i : Str} {x : S} (h : m a = some (cS kvs)) (hl : kvs.length < 1000000) : Dp_ K m a (.d (.str i)) x (cS (putG kvs i x)) := fun F R H u v c ru rv => by
  cases ru
  obtain ⟨vs, hv, rs⟩ := own_dK c h
  refine ⟨_, DPut.k (k := Sum.inr i) hv (by rw [pr_len rs, List.length_map]; exact sz_lt hl), cn_set (o := .dK (putK vs (Sum.inr i) v)) c h ?_⟩
  have z := pr_put_val (P := RS K F) (k := (Sum.inr i : Key)) rv rs
  rw [putG_map inr_inj] at z
  exact z
theorem dp_p {a : Addr} {kvs : List ((Int × Int) × S)} {i j : Int} {x : S} (h : m a = some (cP kvs)) (hl : kvs.length < 1000000) : Dp_ K m a (.d (.tuple [.int i, .int j])) x (cP (putG kvs (i, j) x)) := fun F R H u v c ru rv => by
  obtain ⟨b, rfl, hb⟩ := pair_at ru
  obtain ⟨vs, hv, rs⟩ := own_dT c h
  have hb' : H b = some (.tup (([Sum.inl i, Sum.inl j] : List Key).map kV)) := cn_sub c _ _ hb
  refine ⟨_, DPut.t (k := ([Sum.inl i, Sum.inl j] : List Key)) hv hb' (by rw [pr_len rs, List.length_map]; exact sz_lt hl), cn_set (o := .dT (putK vs _ v)) c h ?_⟩
  have z := pr_put_val (P := RS K F) (k := ([Sum.inl i, Sum.inl j] : List Key)) rv rs
  have e := putG_map (f := fun (p : Int × Int) => ([Sum.inl p.1, Sum.inl p.2] : List Key)) pp_inj (i, j) x kvs
  rw [e] at z
  exact z
theorem ars_dput {D : AD} {td ty tv : TE} (h : AR K tv Γ m fun x m1 => AR K td Γ m1 fun o m2 => AR K ty Γ m2 fun y m3 => ∃ a c', o = .r a ∧ Dp_ K m3 a y x c' ∧ D.nx Γ (mset m3 a c')) : ARS K (sDPut td ty tv) Γ m D := fun σ F R H D' g c k =>
  h σ F R H _ g c fun v x F1 m1 H1 e1 c1 r1 q1 => q1 σ F1 R H1 _ (rg_mono e1 g) c1 fun w o F2 m2 H2 e2 c2 r2 q2 => q2 σ F2 R H2 _ (rg_mono (e1.trans e2) g) c2 fun u y F3 m3 H3 e3 c3 r3 q3 => by
    obtain ⟨a, c', rfl, hd, q⟩ := q3
    obtain rfl : w = .ref a := r2
    obtain ⟨H4, h1, h2⟩ := hd F3 R H3 u v c3 r3 (rs_mono (e2.trans e3) r1)
    exact ⟨a, H4, rfl, h1, k.nx σ Γ F3 _ H4 ((e1.trans e2).trans e3) (rg_mono ((e1.trans e2).trans e3) g) h2 q⟩
/-! list(d), dict(d), len(d) -/
def rListK : List V → Hp → VK → Prop := fun xs H Q => ∃ (a : Addr) (kvs : List (Key × V)), xs = [.ref a] ∧ Rd H a (.dK kvs) ∧ ∀ p, H p = none → Q (.ref p) (upd H p (.lst (kvs.map fun kv => kV kv.1)))
theorem cr_listK {X : Cx} (hc : X.calm = true) : CallR X (.type "list") rListK := call_listD hc
theorem listk_i {a : Addr} {kvs : List (Int × S)} (hm : m a = some (cI kvs)) (q : Q (.d (.list (kvs.map fun p => PyData.int p.1))) m) : LB K rListK [.r a] m Q := fun vs F R H Q' h c k => by
  cases h with
  | cons h d =>
    cases d
    cases h
    obtain ⟨ws, hv, rv⟩ := own_dK c hm
    refine ⟨a, ws, rfl, .inl hv, fun l hl => new_D c hl ?_ k q⟩
    have e : ∀ {ws : List (Key × V)} {kvs : List (Int × S)}, Paired (fun (p : Key × V) (q : Key × S) => p.1 = q.1 ∧ RS K F p.2 q.2) ws (kvs.map fun p => (Sum.inl p.1, p.2)) → DqAll K F (ws.map fun kv => kV kv.1) (kvs.map fun p => PyData.int p.1) := by
      intro ws kvs h
      induction kvs generalizing ws with
      | nil => cases h; exact .nil
      | cons p r ih =>
        cases h with
        | cons h t =>
          refine .cons ?_ (ih t)
          show Dq K F (kV _) (.int p.1)
          rw [h.1]; exact .int _
    exact e rv
def rDictK : List V → Hp → VK → Prop := fun xs H Q => ∃ (a : Addr) (kvs : List (Key × V)), xs = [.ref a] ∧ Rd H a (.dK kvs) ∧ ∀ p, H p = none → Q (.ref p) (upd H p (.dK kvs))
theorem cr_dictK {X : Cx} : CallR X (.type "dict") rDictK := call_dictD
theorem dictk_o {a : Addr} {ks : List (Key × S)} (hm : m a = some (.dK ks)) (q : ∀ p, m p = none → Q (.r p) (mset m p (.dK ks))) : LB K rDictK [.r a] m Q := fun vs F R H Q' h c k => by
  cases h with
  | cons h d =>
    cases d
    cases h
    obtain ⟨ws, hv, rv⟩ := own_dK c hm
    exact ⟨a, ws, rfl, .inl hv, fun l hl => k _ (.r l) F _ _ (Same.refl F) (cn_newO (o := .dK ws) (x := .dK ks) c hl rv) rfl (q l (cn_fresh c hl).2.1)⟩
end
end DL

namespace DL
open PySem PySem.Spec PyProof.Rows L2
section
variable {K : PySem.W.Frag} {Γ : Sl} {m : Mem} {Q : S → Mem → Prop}
/-! list * int -/
theorem rep_dq {F : Hp} {vs : List V} {ds : List PyData} (h : DqAll K F vs ds) : ∀ n : Nat, DqAll K F (List.replicate n vs).flatten (List.replicate n ds).flatten
  | 0 => .nil
  | n + 1 => by
    rw [List.replicate_succ, List.replicate_succ, List.flatten_cons, List.flatten_cons]
    exact dqa_app h (rep_dq h n)
theorem rep_l {ds : List PyData} {n : Int} (h0 : 0 ≤ n) (h1 : n < 1000000) (hl : ds.length * n.toNat ≤ 1000000) (q : Q (.d (.list (List.replicate n.toNat ds).flatten)) m) : LO K rRep (.d (.list ds)) (.d (.int n)) m Q := fun v u F R H Q' a b c k => by
  obtain ⟨p, vs, rfl, h2, h3⟩ := dp_listH a
  cases b
  exact ⟨p, n, vs, rfl, rfl, cn_sub c _ _ h2, by omega, by omega, by rw [dpa_len h3]; exact sz_ok hl, fun l hl => new_D c hl (rep_dq h3 _) k q⟩
/-! an owned list beside data -/
theorem own_dp {a : Addr} {ds : List PyData} {F R H : Hp} (hm : m a = some (.lst (ds.map S.d))) (hc : SeqAt.shaped (.list ds) = true) (c : Cn K m F R H) : Dp K H (.ref a) (.list ds) := (by
  obtain ⟨vs, hv, rv⟩ := own_lst c hm
  have := sh_cl hc
  exact .lst (.inl (.inl hv)) (dqa_dpa (by simpa [PyData.canLay0] using this) (dpa_mono (cn_sub c) (rss_dpa rv))))
theorem ne_oL {a : Addr} {ds : List PyData} {e : PyData} (hm : m a = some (.lst (ds.map S.d))) (h1 : SeqAt.shaped (.list ds) = true) (h2 : SeqAt.shaped e = true) (q : Q (.d (.bool (!PyData.eqv (.list ds) e))) m) : LO K (rNE K) (.r a) (.d e) m Q := lo_r fun v u F R H Q' ra rb c k => by
  obtain rfl : v = .ref a := ra
  exact ⟨_, e, own_dp hm h1 c, dq_dp (sh_cl h2) (dp_mono (cn_sub c) rb), h1, h2, k _ (.d (.bool _)) F m H (Same.refl F) c (Dq.bl _) q⟩
theorem eq_oL {a : Addr} {ds : List PyData} {e : PyData} (hm : m a = some (.lst (ds.map S.d))) (h1 : SeqAt.shaped (.list ds) = true) (h2 : SeqAt.shaped e = true) (q : Q (.d (.bool (PyData.eqv (.list ds) e))) m) : LO K (rEQ K) (.r a) (.d e) m Q := lo_r fun v u F R H Q' ra rb c k => by
  obtain rfl : v = .ref a := ra
  exact ⟨_, e, own_dp hm h1 c, dq_dp (sh_cl h2) (dp_mono (cn_sub c) rb), h1, h2, k _ (.d (.bool _)) F m H (Same.refl F) c (Dq.bl _) q⟩
theorem eqv_nil {ds : List PyData} : PyData.eqv (.list ds) (.list []) = ds.isEmpty := (by
  cases ds with
  | nil => rfl
  | cons d r => simp [PyData.eqv, PyData.eqvAll])
/-- beside the empty list -/
theorem ne_nil_o {α : Type} {a : Addr} {xs : List α} {f : α → PyData} {n : Nat} (hm : m a = some (.lst (xs.map fun x => S.d (f x)))) (h1 : Sh n (.list (xs.map f))) (q : Q (.d (.bool (!xs.isEmpty))) m) (hn : n ≤ 64 := by decide) : LO K (rNE K) (.r a) (.d (.list [])) m Q :=
  ne_oL (ds := xs.map f) (by rw [dmap]; exact hm) (sh_ok h1 hn) (by decide) (by rw [eqv_nil, List.isEmpty_map]; exact q)
theorem eq_nil_o {α : Type} {a : Addr} {xs : List α} {f : α → PyData} {n : Nat} (hm : m a = some (.lst (xs.map fun x => S.d (f x)))) (h1 : Sh n (.list (xs.map f))) (q : Q (.d (.bool xs.isEmpty)) m) (hn : n ≤ 64 := by decide) : LO K (rEQ K) (.r a) (.d (.list [])) m Q :=
  eq_oL (ds := xs.map f) (by rw [dmap]; exact hm) (sh_ok h1 hn) (by decide) (by rw [eqv_nil, List.isEmpty_map]; exact q)
theorem ne_nil_l {α : Type} {xs : List α} {f : α → PyData} {n : Nat} (h1 : Sh n (.list (xs.map f))) (q : Q (.d (.bool (!xs.isEmpty))) m) (hn : n ≤ 64 := by decide) : LO K (rNE K) (.d (.list (xs.map f))) (.d (.list [])) m Q :=
  ne_d (sh_ok h1 hn) (by decide) (by rw [eqv_nil, List.isEmpty_map]; exact q)
theorem eq_nil_l {α : Type} {xs : List α} {f : α → PyData} {n : Nat} (h1 : Sh n (.list (xs.map f))) (q : Q (.d (.bool xs.isEmpty)) m) (hn : n ≤ 64 := by decide) : LO K (rEQ K) (.d (.list (xs.map f))) (.d (.list [])) m Q :=
  eq_d (sh_ok h1 hn) (by decide) (by rw [eqv_nil, List.isEmpty_map]; exact q)
/-! ### frozen dicts of int keys -/
abbrev dDI (kvs : List (Int × PyData)) : PyData := .dict (kvs.map fun p => (.int p.1, p.2))
theorem dks_prI {F : Hp} : ∀ {vs : List (Key × V)} {kvs : List (Int × PyData)}, DqKs K F vs (kvs.map fun p => (.int p.1, p.2)) → Paired (fun (p : Key × V) (q : Key × S) => p.1 = q.1 ∧ RS K F p.2 q.2) vs (kvs.map fun p => ((Sum.inl p.1 : Key), S.d p.2))
  | [], [], .nil => .nil
  | (k, v) :: vs, (i, d) :: kvs, h => by
    rw [List.map_cons] at h
    generalize hi : PyData.int i = di at h
    cases h with
    | cons h t =>
      refine .cons ⟨?_, h⟩ (dks_prI t)
      cases k with
      | inl j => cases hi; rfl
      | inr x => cases hi
theorem dict_at {F : Hp} {v : V} {kvs : List (Int × PyData)} (h : Dq K F v (dDI kvs)) : ∃ b vs, v = .ref b ∧ F b = some (.dK vs) ∧ Paired (fun (p : Key × V) (q : Key × S) => p.1 = q.1 ∧ RS K F p.2 q.2) vs (kvs.map fun p => ((Sum.inl p.1 : Key), S.d p.2)) := (by
  unfold dDI at h
  generalize hp : (kvs.map fun p => ((PyData.int p.1, p.2) : PyData × PyData)) = ps at h
  cases h with
  | dct h1 h2 =>
    subst hp
    exact ⟨_, _, rfl, h1, dks_prI h2⟩)
theorem getG_mapS (i : Int) : ∀ kvs : List (Int × PyData), getG (kvs.map fun p => ((Sum.inl p.1 : Key), S.d p.2)) (Sum.inl i) = (getG kvs i).map S.d
  | [] => rfl
  | p :: r => by
    rw [List.map_cons, getG_cons, getG_cons, getG_mapS i r]
    by_cases e : p.1 = i
    · simp [e]
    · simp [e]
theorem ar_dgetD {td ty : TE} (h : AR K td Γ m fun o m1 => AR K ty Γ m1 fun y m2 => ∃ kvs i x, o = .d (dDI kvs) ∧ y = .d (.int i) ∧ getG kvs i = some x ∧ Q (.d x) m2) : AR K (tDGet td ty) Γ m Q := fun σ F R H Q' g c k =>
  h σ F R H _ g c fun v o F1 m1 H1 e1 c1 r1 q1 => q1 σ F1 R H1 _ (rg_mono e1 g) c1 fun u y F2 m2 H2 e2 c2 r2 q2 => by
    obtain ⟨kvs, i, x, rfl, rfl, hx, q⟩ := q2
    obtain ⟨b, vs, rfl, hb, pr⟩ := dict_at (dp_mono e2 r1)
    cases r2
    have z := (pr_get_val (P := RS K F2) (k := (Sum.inl i : Key)) pr).1 (S.d x) (by rw [getG_mapS, hx]; rfl)
    obtain ⟨w, h1, h2⟩ := z
    exact ⟨b, w, rfl, by rw [← h1]; exact DGet.k (k := Sum.inl i) (cn_sub c2 _ _ hb), k w (.d x) F2 m2 H2 (e1.trans e2) c2 h2 q⟩
theorem ar_dnewD (q : Q (.d (.dict [])) m) : AR K tDNewK Γ m Q := fun σ F R H Q' g c k p hp => by
  have c2 := cn_newO (o := .dK []) (x := .dK []) c hp .nil
  obtain ⟨_, hm, _⟩ := cn_fresh c hp
  have l : Le m (mset m p (.dK [])) := Le.set hm
  refine k _ (.d (.dict [])) _ m _ (frzF_same c2) (cn_frz c2 l) ?_ q
  exact rp_dp c2 (x := .r p) (d := .dict []) (.dct (ks := []) (ds := []) mset_same hm .nil) rfl
theorem dictk_d {kvs : List (Int × PyData)} (q : ∀ p, m p = none → Q (.r p) (mset m p (cI (kvs.map fun p => (p.1, S.d p.2))))) : LB K rDictK [.d (dDI kvs)] m Q := fun vs F R H Q' h c k => by
  cases h with
  | cons h d =>
    cases d
    obtain ⟨b, ws, rfl, hb, pr⟩ := dict_at h
    refine ⟨b, ws, rfl, .inl (cn_sub c _ _ hb), fun l hl => k _ (.r l) F _ _ (Same.refl F) (cn_newO (o := .dK ws) (x := cI (kvs.map fun p => (p.1, S.d p.2))) c hl ?_) rfl (q l (cn_fresh c hl).2.1)⟩
    show Paired _ _ _
    rw [List.map_map]
    exact pr
theorem listk_d {kvs : List (Int × PyData)} (q : Q (.d (.list (kvs.map fun p => PyData.int p.1))) m) : LB K rListK [.d (dDI kvs)] m Q := fun vs F R H Q' h c k => by
  cases h with
  | cons h d =>
    cases d
    obtain ⟨b, ws, rfl, hb, pr⟩ := dict_at h
    refine ⟨b, ws, rfl, .inl (cn_sub c _ _ hb), fun l hl => new_D c hl ?_ k q⟩
    clear hb h
    have e : ∀ {ws : List (Key × V)} {kvs : List (Int × PyData)}, Paired (fun (p : Key × V) (q : Key × S) => p.1 = q.1 ∧ RS K F p.2 q.2) ws (kvs.map fun p => (Sum.inl p.1, S.d p.2)) → DqAll K F (ws.map fun kv => kV kv.1) (kvs.map fun p => PyData.int p.1) := by
      intro ws kvs h
      induction kvs generalizing ws with
      | nil => cases h; exact .nil
      | cons p r ih =>
        cases h with
        | cons h t =>
          refine .cons ?_ (ih t)
          show Dq K F (kV _) (.int p.1)
          rw [h.1]; exact .int _
    exact e pr
theorem rp_dI {m' : Mem} {a : Addr} {kvs : List (Int × PyData)} (hm : m a = some (cI (kvs.map fun p => (p.1, S.d p.2)))) (h : m' a = none) : Rp m m' (.r a) (dDI kvs) := (by
  have z := Rp.dct (m := m) (m' := m') (ds := kvs.map (·.2)) hm h (by
    rw [List.map_map, List.map_map]
    show Paired (Rp m m') (kvs.map fun p => S.d p.2) _
    rw [show (kvs.map fun p => S.d p.2) = (kvs.map (·.2)).map S.d by rw [List.map_map]; rfl]
    exact rp_ds)
  rw [List.map_map, List.map_map] at z
  have e : (List.zip (kvs.map (((fun (p : Key × S) => kD p.1) ∘ (fun (p : Int × S) => ((Sum.inl p.1 : Key), p.2))) ∘ fun p => (p.1, S.d p.2))) (kvs.map (·.2))) = kvs.map fun p => (.int p.1, p.2) := by
    rw [List.zip_map', ]
    rfl
  rw [e] at z
  exact z)
/-! list(range(n)) -/
theorem dqa_of {F : Hp} {α : Type} (f : α → V) (g : α → PyData) (h : ∀ x, Dq K F (f x) (g x)) : ∀ xs : List α, DqAll K F (xs.map f) (xs.map g)
  | [] => .nil
  | x :: r => .cons (h x) (dqa_of f g h r)
theorem dq_rg {F : Hp} {a b : Int} : DqAll K F (rgV a b) ((List.range (b - a).toNat).map fun (k : Nat) => PyData.int (a + k)) := dqa_of _ _ (fun _ => .int _) _
theorem rg0 {n : Nat} : ((List.range ((n : Int) - 0).toNat).map fun (k : Nat) => PyData.int (0 + k)) = (List.range n).map fun (k : Nat) => PyData.int k := (by
  rw [Int.sub_zero, Int.toNat_natCast]
  apply List.map_congr_left
  intro k _
  rw [Int.zero_add])
theorem ar_lstRg0 {te : TE} (h : AR K te Γ m fun x m1 => ∃ n : Nat, x = .d (.int n) ∧ n ≤ 1000000 ∧ Q (.d (.list ((List.range n).map fun (k : Nat) => PyData.int k))) m1) : AR K (tLstRg (tRg1 te)) Γ m Q := fun σ F R H Q' g c k =>
  h σ F R H _ g c fun v x F1 m1 H1 e1 c1 r1 q1 => by
    obtain ⟨n, rfl, hn, q⟩ := q1
    cases r1
    have z : DqAll K F1 (rgV 0 n) ((List.range n).map fun (k : Nat) => PyData.int k) := rg0 ▸ dq_rg
    exact ⟨n, rfl, RgOk.of_le (by omega) (by omega) (by omega) (by omega), fun p hp => new_D c1 hp z (fun v x F' m' H' e => k v x F' m' H' (e1.trans e)) q⟩
theorem ar_lstRg0O {te : TE} (h : AR K te Γ m fun x m1 => ∃ n : Nat, x = .d (.int n) ∧ n ≤ 1000000 ∧ ∀ p, m1 p = none → Q (.r p) (mset m1 p (.lst ((List.range n).map fun (k : Nat) => S.d (.int k))))) : AR K (tOwn (tLstRg (tRg1 te))) Γ m Q := fun σ F R H Q' g c k =>
  h σ F R H _ g c fun v x F1 m1 H1 e1 c1 r1 q1 => by
    obtain ⟨n, rfl, hn, q⟩ := q1
    cases r1
    have z : DqAll K F1 (rgV 0 n) ((List.range n).map fun (k : Nat) => PyData.int k) := rg0 ▸ dq_rg
    have z2 := dpa_rss z
    rw [List.map_map] at z2
    exact ⟨n, rfl, RgOk.of_le (by omega) (by omega) (by omega) (by omega), fun p hp => new_O c1 hp z2 (fun v x F' m' H' e => k v x F' m' H' (e1.trans e)) q⟩
theorem ar_lstRgd {ta tb : TE} (h : AR K ta Γ m fun x m1 => AR K tb Γ m1 fun y m2 => ∃ i j : Int, x = .d (.int i) ∧ y = .d (.int j) ∧ (-1000000000000000000 ≤ i ∧ i ≤ 1000000000000000000 ∧ j ≤ i + 1000000 ∧ -1000000000000000000 ≤ j) ∧ Q (.d (.list ((List.range (j - i).toNat).map fun (k : Nat) => PyData.int (i + k)))) m2) : AR K (tLstRg (tRg2 ta tb)) Γ m Q := fun σ F R H Q' g c k =>
  h σ F R H _ g c fun v x F1 m1 H1 e1 c1 r1 q1 => q1 σ F1 R H1 _ (rg_mono e1 g) c1 fun u y F2 m2 H2 e2 c2 r2 q2 => by
    obtain ⟨i, j, rfl, rfl, hb, q⟩ := q2
    cases r1; cases r2
    exact ⟨i, j, rfl, rfl, ⟨by omega, by omega, by omega, by omega, by omega⟩, fun p hp => new_D c2 hp dq_rg (fun v x F' m' H' e => k v x F' m' H' ((e1.trans e2).trans e)) q⟩
theorem erase_map {α β : Type} (f : α → β) : ∀ (xs : List α) (i : Nat), (xs.map f).eraseIdx i = (xs.eraseIdx i).map f
  | [], _ => rfl
  | _ :: _, 0 => rfl
  | x :: r, i + 1 => by
    rw [List.map_cons, List.eraseIdx_cons_succ, List.eraseIdx_cons_succ, List.map_cons, erase_map f r i]
theorem perm_erase {α : Type} : ∀ {xs : List α} {i : Nat} (h : i < xs.length), (xs[i] :: xs.eraseIdx i).Perm xs
  | _ :: _, 0, _ => List.Perm.refl _
  | x :: r, i + 1, h => by
    rw [List.getElem_cons_succ, List.eraseIdx_cons_succ]
    exact (List.Perm.swap _ _ _).trans ((perm_erase (xs := r) (by simpa using h)).cons x)
theorem pop_any {α : Type} {p : Addr} {xs : List α} {f : α → S} {i : Int} (hm : m p = some (.lst (xs.map f))) (h0 : 0 ≤ i) (h1 : i < xs.length) (hb : xs.length ≤ 1000000) (q : ∀ x r, (x :: r).Perm xs → Q (f x) (mset m p (.lst (r.map f)))) : LM K rPopAt (.r p) [.d (.int i)] m Q := (by
  have hi : i.toNat < xs.length := by omega
  refine popAt_o hm h0 (by omega) (by rw [List.getElem?_map, List.getElem?_eq_getElem hi]; rfl) ?_
  rw [erase_map]
  exact q _ _ (perm_erase hi))
theorem nodup_pop {α : Type} {a r xs : List α} {x : α} (h : (a ++ xs).Nodup) (p : (x :: r).Perm xs) : (a ++ x :: r).Nodup := (List.Perm.append_left a p).nodup_iff.mpr h
theorem nodup_drop {α : Type} {a r : List α} {x : α} (h : (a ++ x :: r).Nodup) : (a ++ r).Nodup := h.sublist (List.Sublist.append (List.Sublist.refl a) (List.sublist_cons_self x r))
theorem nodup_app {α : Type} {a r : List α} {x : α} (h : (a ++ x :: r).Nodup) : ((a ++ [x]) ++ r).Nodup := by rw [List.append_assoc]; exact h
theorem snoc_rec {α : Type} {P : List α → Prop} (h0 : P []) (h1 : ∀ xs x, P xs → P (xs ++ [x])) (xs : List α) : P xs := (by
  have : ∀ n, ∀ xs : List α, xs.length = n → P xs := by
    intro n
    induction n with
    | zero => intro xs h; rw [List.length_eq_zero_iff.mp h]; exact h0
    | succ n ih =>
      intro xs h
      have hne : xs ≠ [] := by rintro rfl; simp at h
      rw [← List.dropLast_concat_getLast hne]
      exact h1 _ _ (ih _ (by rw [List.length_dropLast]; omega))
  exact this _ xs rfl)
theorem rp_lst {α : Type} {m m' : Mem} {a : Addr} {xs : List α} {f : α → PyData} (hm : m a = some (.lst (xs.map fun x => S.d (f x)))) (h : m' a = none) : Rp m m' (.r a) (.list (xs.map f)) := .lst (by rw [← dmap] at hm; exact hm) h rp_ds
theorem sh_dT {ns : List Int} : Sh 1 (.tuple (ns.map PyData.int)) := sh_tup (n := 0) fun d h => by
  obtain ⟨n, _, rfl⟩ := List.mem_map.mp h
  exact sh_int
/-! ### a dict walked by its keys: locked meanwhile -/
theorem rc_lkd {F : Hp} {o : HO} {od : Obj} {u : HO} {ks : List (Key × S)} (h : RC K F o (.lkd od u ks)) : o = .frz od u ∧ ∃ kvs, u = .dK kvs ∧ Paired (fun (p : Key × V) (q : Key × S) => p.1 = q.1 ∧ RS K F p.2 q.2) kvs ks := (by
  cases o <;> exact h)
theorem mk_lkd {F : Hp} {od : Obj} {kvs : List (Key × V)} {ks : List (Key × S)} (h : Paired (fun (p : Key × V) (q : Key × S) => p.1 = q.1 ∧ RS K F p.2 q.2) kvs ks) : RC K F (.frz od (.dK kvs)) (.lkd od (.dK kvs) ks) := ⟨rfl, kvs, rfl, h⟩
theorem ars_lock {t : TS} {D : AD} {a : Addr} {ks : List (Key × S)} (hm : m a = some (.dK ks)) (h : ∀ od u, ARS K t Γ (mset m a (.lkd od u ks)) ⟨fun Γ' m' => m' a = some (.lkd od u ks) ∧ D.nx Γ' (mset m' a (.dK ks)), fun x m' => m' a = some (.lkd od u ks) ∧ D.rt x (mset m' a (.dK ks)), fun Γ' m' => m' a = some (.lkd od u ks) ∧ D.bk Γ' (mset m' a (.dK ks)), fun Γ' m' => m' a = some (.lkd od u ks) ∧ D.ct Γ' (mset m' a (.dK ks))⟩) : ARS K (tLock t) Γ m D := fun σ F R H D' g c k => by
  obtain ⟨kvs, hv, pr⟩ := own_dK c hm
  refine ⟨a, .dK kvs, hv, True.intro, fun od => ?_⟩
  have c2 := cn_set (o := .frz od (.dK kvs)) (x := .lkd od (.dK kvs) ks) c hm (mk_lkd pr)
  have back : ∀ (F' : Hp) (m' : Mem) (H' : Hp), Cn K m' F' R H' → m' a = some (.lkd od (.dK kvs) ks) → H' a = some (.frz od (.dK kvs)) ∧ Cn K (mset m' a (.dK ks)) F' R (upd H' a (.dK kvs)) := fun F' m' H' c' q => by
    obtain ⟨_, _, o, ho, rc⟩ := c'.own a _ q
    obtain ⟨rfl, kvs', e, pr'⟩ := rc_lkd rc
    cases e
    exact ⟨ho, cn_set (o := .dK kvs) (x := .dK ks) c' q pr'⟩
  exact h od (.dK kvs) σ F R _ _ g c2 ⟨fun σ' Γ' F' m' H' e g' c' q => ⟨(back F' m' H' c' q.1).1, k.nx σ' Γ' F' _ _ e g' (back F' m' H' c' q.1).2 q.2⟩,
    fun v x F' m' H' e c' r q => ⟨(back F' m' H' c' q.1).1, k.rt v x F' _ _ e (back F' m' H' c' q.1).2 r q.2⟩,
    fun σ' Γ' F' m' H' e g' c' q => ⟨(back F' m' H' c' q.1).1, k.bk σ' Γ' F' _ _ e g' (back F' m' H' c' q.1).2 q.2⟩,
    fun σ' Γ' F' m' H' e g' c' q => ⟨(back F' m' H' c' q.1).1, k.ct σ' Γ' F' _ _ e g' (back F' m' H' c' q.1).2 q.2⟩⟩
theorem yl_keys {F : Hp} {a : Addr} {od : Obj} {kvs : List (Key × V)} {ks : List (Key × S)} (hk : kvs.map (·.1) = ks.map (·.1)) : Yl K (Itk a od kvs) F (fun m' => m' a = some (.lkd od (.dK kvs) ks)) (ks.map fun p => S.d (kD p.1)) where
  at_ := fun i d F' m' R H' hd e c gm => by
    obtain ⟨_, _, o, ho, rc⟩ := c.own a _ gm
    obtain ⟨rfl, _, _, _⟩ := rc_lkd rc
    rw [List.getElem?_map] at hd
    cases hx : ks[i]? with
    | none => rw [hx] at hd; cases hd
    | some p =>
      rw [hx] at hd; cases hd
      have hl : kvs.length = ks.length := by have := congrArg List.length hk; simpa using this
      have hi := (List.getElem?_eq_some_iff.mp hx).1
      refine ⟨⟨ho, by omega⟩, fun x H2 ⟨e2, k, v, h1, h2⟩ => ?_⟩
      subst e2; subst h2
      have e3 : (kvs.map (·.1))[i]? = (ks.map (·.1))[i]? := by rw [hk]
      rw [List.getElem?_map, List.getElem?_map, h1, hx] at e3
      simp only [Option.map_some, Option.some.injEq] at e3
      refine ⟨F', Same.refl F', c, ?_⟩
      show Dq K F' (kV k) (kD p.1)
      rw [← e3]
      cases k with
      | inl j => exact .int j
      | inr z => exact .str z
  stop := fun F' m' R H' e c gm => by
    obtain ⟨_, _, o, ho, rc⟩ := c.own a _ gm
    obtain ⟨rfl, _, _, _⟩ := rc_lkd rc
    have hl : kvs.length = ks.length := by have := congrArg List.length hk; simpa using this
    exact ⟨ho, by rw [List.length_map]; omega⟩
theorem pr_keys {F : Hp} {kvs : List (Key × V)} {ks : List (Key × S)} (h : Paired (fun (p : Key × V) (q : Key × S) => p.1 = q.1 ∧ RS K F p.2 q.2) kvs ks) : kvs.map (·.1) = ks.map (·.1) := (by
  induction h with
  | nil => rfl
  | cons h _ ih => rw [List.map_cons, List.map_cons, ih, h.1])
theorem ari_keys {te : TE} {Z : List S → (Mem → Prop) → Mem → Prop} (h : AR K te Γ m fun x m1 => ∃ a od u ks, x = .r a ∧ m1 a = some (.lkd od u ks) ∧ Z (ks.map fun p => S.d (kD p.1)) (fun m' => m' a = some (.lkd od u ks)) m1) : ARI K (iKeys te) Γ m Z := fun σ F R H R' g c k =>
  h σ F R H _ g c fun v x F1 m1 H1 e1 c1 r1 q1 => by
    obtain ⟨a, od, u, ks, rfl, hm, q⟩ := q1
    obtain rfl : v = .ref a := r1
    obtain ⟨_, _, o, ho, rc⟩ := c1.own a _ hm
    obtain ⟨rfl, kvs, rfl, pr⟩ := rc_lkd rc
    exact ⟨a, od, rfl, .inl ⟨kvs, ho, k _ _ _ F1 m1 H1 e1 c1 (yl_keys (pr_keys pr)) hm q⟩⟩
/-- {i: x} -/
theorem ar_disp1 {tk tv : TE} (h : ∀ p, m p = none → AR K tk Γ (mset m p (cI [])) fun y m1 => AR K tv Γ m1 fun x m2 => ∃ i, y = .d (.int i) ∧ m2 p = some (cI []) ∧ Q (.r p) (mset m2 p (cI [(i, x)]))) : AR K (tDisp [(tk, tv)]) Γ m Q := fun σ F R H Q' g c k p hp => by
  have c0 := cn_newO (o := .dK []) (x := cI []) c hp .nil
  refine h p (cn_fresh c hp).2.1 σ F R _ _ g c0 fun v y F1 m1 H1 e1 c1 r1 q1 => q1 σ F1 R H1 _ (rg_mono e1 g) c1 fun u x F2 m2 H2 e2 c2 r2 q2 => ?_
  obtain ⟨i, rfl, hm, q⟩ := q2
  cases r1
  obtain ⟨kvs, hv, pr⟩ := own_dK (ks := []) c2 hm
  cases pr
  exact ⟨hv, [(Sum.inl i, u)], rfl, by simp, k (.ref p) (.r p) F2 _ _ (e1.trans e2) (cn_set (o := .dK [(Sum.inl i, u)]) (x := cI [(i, x)]) c2 hm (.cons ⟨rfl, r2⟩ .nil)) rfl q⟩
theorem ar_chain {p p' : Int → Int → Bool} {ta tb tc : TE} (h : AR K ta Γ m fun x m1 => AR K tb Γ m1 fun y m2 => ∃ i j, x = .d (.int i) ∧ y = .d (.int j) ∧ if p i j = true then AR K tc Γ m2 fun z m3 => ∃ k, z = .d (.int k) ∧ Q (.d (.bool (p' j k))) m3 else Q (.d (.bool false)) m2) : AR K (tChain (rI0 fun i j => V.bl (p i j)) (rI0 fun i j => V.bl (p' i j)) ta tb tc) Γ m Q := fun σ F R H Q' g c k =>
  h σ F R H _ g c fun v x F1 m1 H1 e1 c1 r1 q1 => q1 σ F1 R H1 _ (rg_mono e1 g) c1 fun u y F2 m2 H2 e2 c2 r2 q2 => by
    obtain ⟨i, j, rfl, rfl, q⟩ := q2
    cases r1; cases r2
    refine ⟨i, j, rfl, rfl, p i j, rfl, ?_⟩
    by_cases hp : p i j = true
    · rw [if_pos hp] at q ⊢
      exact q σ F2 R H2 _ (rg_mono (e1.trans e2) g) c2 fun w z F3 m3 H3 e3 c3 r3 q3 => by
        obtain ⟨l, rfl, q⟩ := q3
        cases r3
        exact ⟨j, l, rfl, rfl, k _ (.d (.bool (p' j l))) F3 m3 H3 ((e1.trans e2).trans e3) c3 (Dq.bl _) q⟩
    · rw [if_neg hp] at q ⊢
      exact k _ (.d (.bool false)) F2 m2 H2 (e1.trans e2) c2 (Dq.bl _) q
/-! {text: x, ..} -/
def ARP (K : PySem.W.Frag) (t : List (TE × TE)) (Γ : Sl) (m : Mem) (Q : List (S × S) → Mem → Prop) : Prop :=
  ∀ (σ : L2.St) (F R H : Hp) (Q' : List (V × V) → Hp → Prop), RG K F σ Γ → Cn K m F R H → (∀ vs xs F' m' H', Same F F' → Cn K m' F' R H' → Paired (fun (p : V × V) (q : S × S) => RS K F' p.1 q.1 ∧ RS K F' p.2 q.2) vs xs → Q xs m' → Q' vs H') → tPairs t σ H Q'
theorem arp_nil {Q : List (S × S) → Mem → Prop} (h : Q [] m) : ARP K [] Γ m Q := fun σ F R H Q' g c k => k [] [] F m H (Same.refl F) c .nil h
theorem arp_cons {tk tv : TE} {r : List (TE × TE)} {Q : List (S × S) → Mem → Prop} (h : AR K tk Γ m fun x m1 => AR K tv Γ m1 fun y m2 => ARP K r Γ m2 fun ps m3 => Q ((x, y) :: ps) m3) : ARP K ((tk, tv) :: r) Γ m Q := fun σ F R H Q' g c k =>
  h σ F R H _ g c fun v x F1 m1 H1 e1 c1 r1 q1 => q1 σ F1 R H1 _ (rg_mono e1 g) c1 fun u y F2 m2 H2 e2 c2 r2 q2 => q2 σ F2 R H2 _ (rg_mono (e1.trans e2) g) c2 fun vs xs F3 m3 H3 e3 c3 r3 q3 =>
    k _ _ F3 m3 H3 ((e1.trans e2).trans e3) c3 (.cons ⟨rs_mono (e2.trans e3) r1, rs_mono e3 r2⟩ r3) q3
def putsS (kvs : List (Str × S)) : List (Str × S) := kvs.foldl (fun acc q => putG acc q.1 q.2) []
theorem puts_pr {F : Hp} : ∀ {vs : List (V × V)} {kvs : List (Str × S)} {av : List (Key × V)} {ak : List (Str × S)}, Paired (fun (p : V × V) (q : S × S) => RS K F p.1 q.1 ∧ RS K F p.2 q.2) vs (kvs.map fun q => (S.d (.str q.1), q.2)) → Paired (fun (p : Key × V) (q : Key × S) => p.1 = q.1 ∧ RS K F p.2 q.2) av (ak.map fun p => ((Sum.inr p.1 : Key), p.2)) →
    ∃ kv : List (Key × V), vs = kv.map (fun kv => (kV kv.1, kv.2)) ∧ kv.length = kvs.length ∧ Paired (fun (p : Key × V) (q : Key × S) => p.1 = q.1 ∧ RS K F p.2 q.2) (mergeK av kv) ((kvs.foldl (fun acc q => putG acc q.1 q.2) ak).map fun p => ((Sum.inr p.1 : Key), p.2))
  | [], [], av, ak, .nil, a => ⟨[], rfl, rfl, a⟩
  | (v, u) :: vs, (k, x) :: kvs, av, ak, .cons ⟨h1, h2⟩ t, a => by
    cases h1
    have a2 := pr_put_val (P := RS K F) (k := (Sum.inr k : Key)) h2 a
    rw [putG_map inr_inj] at a2
    obtain ⟨kv, e1, e2, e3⟩ := puts_pr t a2
    exact ⟨(Sum.inr k, u) :: kv, by rw [e1]; rfl, by simp [e2], e3⟩
theorem ar_dispS {t : List (TE × TE)} (h : ∀ p, m p = none → ARP K t Γ (mset m p (cS [])) fun ps m2 => ∃ kvs : List (Str × S), ps = kvs.map (fun q => (S.d (.str q.1), q.2)) ∧ kvs.length ≤ 15 ∧ m2 p = some (cS []) ∧ Q (.r p) (mset m2 p (cS (putsS kvs)))) : AR K (tDisp t) Γ m Q := fun σ F R H Q' g c k p hp => by
  have c0 := cn_newO (o := .dK []) (x := cS []) c hp .nil
  refine h p (cn_fresh c hp).2.1 σ F R _ _ g c0 fun vs xs F1 m1 H1 e1 c1 r1 q1 => ?_
  obtain ⟨kvs, rfl, hl, hm, q⟩ := q1
  obtain ⟨ws, hv, pr⟩ := own_dK (ks := []) c1 hm
  cases pr
  obtain ⟨kv, e2, e3, e4⟩ := puts_pr (av := []) (ak := []) r1 .nil
  exact ⟨hv, kv, e2, by omega, k (.ref p) (.r p) F1 _ _ e1 (cn_set (o := .dK (mergeK [] kv)) (x := cS (putsS kvs)) c1 hm e4) rfl q⟩
theorem ex_kv4 {a b c d : Str} {x y z w : S} {P : List (Str × S) → Prop} (h : P [(a, x), (b, y), (c, z), (d, w)]) : ∃ kvs : List (Str × S), [(S.d (.str a), x), (S.d (.str b), y), (S.d (.str c), z), (S.d (.str d), w)] = kvs.map (fun q => (S.d (.str q.1), q.2)) ∧ P kvs := ⟨_, rfl, h⟩
theorem perm_map {α β : Type} {f : α → β} : ∀ {es zs : List β}, es.Perm zs → ∀ {xs : List α}, zs = xs.map f → ∃ ys : List α, ys.Perm xs ∧ es = ys.map f := (by
  intro es zs h
  induction h with
  | nil => intro xs e; cases xs with
    | nil => exact ⟨[], .nil, rfl⟩
    | cons _ _ => cases e
  | cons d _ ih =>
    intro xs e
    cases xs with
    | nil => cases e
    | cons x r =>
      rw [List.map_cons] at e
      injection e with e1 e2
      obtain ⟨ys, h1, h2⟩ := ih e2
      exact ⟨x :: ys, h1.cons x, by rw [List.map_cons, ← h2, e1]⟩
  | swap d e l =>
    intro xs h
    cases xs with
    | nil => cases h
    | cons x r => cases r with
      | nil => cases h
      | cons y r =>
        simp only [List.map_cons, List.cons.injEq] at h
        exact ⟨y :: x :: r, List.Perm.swap _ _ _, by simp [h.1, h.2.1, h.2.2]⟩
  | trans _ _ ih1 ih2 =>
    intro xs e
    obtain ⟨ys, h1, h2⟩ := ih2 e
    obtain ⟨zs, h3, h4⟩ := ih1 h2
    exact ⟨zs, h3.trans h1, h4⟩)
def cR (ks : List Int) : C := cI (ks.map fun k => (k, S.d (.bool true)))
def addR (ks : List Int) (k : Int) : List Int := if k ∈ ks then ks else ks ++ [k]
theorem cR_get (ks : List Int) (k : Int) : (getG (ks.map fun k => (k, S.d (.bool true))) k).isSome = decide (k ∈ ks) := (by
  rw [Bool.eq_iff_iff, getG_mem, List.map_map, decide_eq_true_iff]
  show k ∈ ks.map (fun k => k) ↔ _
  rw [List.map_id'])
theorem cR_put (ks : List Int) (k : Int) : putG (ks.map fun k => (k, S.d (.bool true))) k (S.d (.bool true)) = (addR ks k).map fun k => (k, S.d (.bool true)) := (by
  have hg := cR_get ks k
  unfold addR
  by_cases h : k ∈ ks
  · rw [if_pos h]
    unfold putG
    rw [getG_any, hg, if_pos (decide_eq_true h), List.map_map]
    apply List.map_congr_left
    intro x _
    show (if x = k then (x, _) else (x, _)) = _
    split <;> rfl
  · rw [if_neg h, putG_new _ (by rw [decide_eq_false h] at hg; simpa using hg), List.map_append]; rfl)
theorem addR_mem {ks : List Int} {k x : Int} : x ∈ addR ks k ↔ x ∈ ks ∨ x = k := (by
  unfold addR
  split
  · rename_i h
    exact ⟨Or.inl, fun q => q.elim id fun e => e ▸ h⟩
  · simp)
theorem addR_nodup {ks : List Int} {k : Int} (h : ks.Nodup) : (addR ks k).Nodup := (by
  unfold addR
  split
  · exact h
  · rename_i hk
    exact List.nodup_append.mpr ⟨h, by simp, fun a ha b hb => by
      rw [List.mem_singleton.mp hb]; rintro rfl; exact hk ha⟩)
theorem op_catAK {X : Cx} (h : X.K = K) : OpR X (binaryOp .Add) (rCatA K) := h ▸ op_catA
theorem cat_t {ds es : List PyData} (hl : ds.length + es.length ≤ 1000000) (q : Q (.d (.tuple (ds ++ es))) m) : LO K (rCatA K) (.d (.tuple ds)) (.d (.tuple es)) m Q := fun v u F R H Q' ra rb c k => by
  obtain ⟨a, xs, rfl, h1, h2⟩ := dp_tup ra
  obtain ⟨b, ys, rfl, h3, h4⟩ := dp_tup rb
  have e1 := dpa_len h2
  have e2 := dpa_len h4
  refine ⟨a, b, xs, ys, rfl, rfl, same_sqt (cn_sub c) h1, same_sqt (cn_sub c) h3, by rw [e1, e2]; exact sz_ok hl, fun h => ?_, fun _ h => ?_, fun _ _ p hp => new_T c hp (dqa_app h2 h4) k q⟩
  · subst h
    have : ds = [] := List.length_eq_zero_iff.mp (by rw [← e1]; rfl)
    subst this
    exact k _ (.d (.tuple es)) F m H (Same.refl F) c rb q
  · subst h
    have : es = [] := List.length_eq_zero_iff.mp (by rw [← e2]; rfl)
    subst this
    rw [List.append_nil] at q
    exact k _ (.d (.tuple ds)) F m H (Same.refl F) c ra q
theorem own_ints {a : Addr} {ns : List Int} {F R H : Hp} (hm : m a = some (.lst (ns.map fun n => S.d (.int n)))) (c : Cn K m F R H) : H a = some (.lst (ns.map V.int)) := (by
  obtain ⟨vs, hv, rv⟩ := own_lst c hm
  have h2 : DqAll K F vs (ns.map PyData.int) := rss_dpa (by rw [dmap]; exact rv)
  rw [ints_of h2] at hv
  exact hv)
theorem in_io {a : Addr} {ns : List Int} {i : Int} (hm : m a = some (.lst (ns.map fun n => S.d (.int n)))) (q : Q (.d (.bool (decide (i ∈ ns)))) m) : LO K (rINS K) (.d (.int i)) (.r a) m Q := lo_r (lo_l fun v u F R H Q' ra rb c k => by
  cases ra
  obtain rfl : u = .ref a := rb
  refine ⟨a, _, rfl, .inl (.inl (.inl (own_ints hm c))), rfl, flat_ints ns, k _ (.d (.bool (decide (i ∈ ns)))) F m H (Same.refl F) c ?_ q⟩
  show Dq K F (.bl (inV (.int i) (ns.map V.int))) _
  rw [inV_ints]; exact Dq.bl _)
theorem notin_io {a : Addr} {ns : List Int} {i : Int} (hm : m a = some (.lst (ns.map fun n => S.d (.int n)))) (q : Q (.d (.bool (!decide (i ∈ ns)))) m) : LO K (rNINS K) (.d (.int i)) (.r a) m Q := lo_r (lo_l fun v u F R H Q' ra rb c k => by
  cases ra
  obtain rfl : u = .ref a := rb
  refine ⟨a, _, rfl, .inl (.inl (.inl (own_ints hm c))), rfl, flat_ints ns, k _ (.d (.bool (!decide (i ∈ ns)))) F m H (Same.refl F) c ?_ q⟩
  show Dq K F (.bl (!inV (.int i) (ns.map V.int))) _
  rw [inV_ints]; exact Dq.bl _)
theorem ex_ii {i j : Int} {P : Int → Int → Prop} (h : P i j) : ∃ a b, S.d (.int i) = S.d (.int a) ∧ S.d (.int j) = S.d (.int b) ∧ P a b := ⟨i, j, rfl, rfl, h⟩
theorem ex_zip {a b : List PyData} {P : List PyData → List PyData → Prop} (h : P a b) : ∃ ds es, [S.d (.list a), S.d (.list b)] = [S.d (.list ds), S.d (.list es)] ∧ P ds es := ⟨a, b, rfl, h⟩
theorem cut_last {α : Type} (xs : List α) : cutL xs (some (-1)) none = xs.drop (xs.length - 1) := (by
  unfold cutL
  rw [HT.sIx_none, show HT.sIx xs.length 0 (some (-1)) = xs.length - 1 by
    show (if (-1 : Int) < 0 then ((-1 : Int) + (xs.length : Int)).toNat else min (-1 : Int).toNat xs.length) = xs.length - 1
    rw [if_pos (by decide)]
    omega]
  exact List.take_of_length_le (by rw [List.length_drop]; exact Nat.le_refl _))
end
end DL

/-! zip of a list and a tuple: the library walks two lists, or two tuples; this is the third case, by its steps -/
namespace DL
section
set_option maxHeartbeats 1000000
open PySem
open PySem.Sem (wp)
section
variable {prog : Program} {w : World} {A : Around} {E : Value → Shared → Prop} {s : Shared}
theorem zipX_next_item {z TI TO i1 i2 l1 l2 : Addr} {k1 k2 : Nat} {xs ys : Array Value} {x y a b : Value} {Q : Value → Shared → Prop} (D : ZipApart z TI TO i1 i2 l1 l2)
    (hz : IsZip s.heap z TI TO .none) (hTI : IsPair s.heap TI (.ref i1) (.ref i2)) (hTO : IsPair s.heap TO a b)
    (h1 : s.heap.IsListIter i1 l1 k1) (h2 : s.heap.IsTupleIter i2 l2 k2) (hl1 : s.heap.IsList l1 xs) (hl2 : s.heap.IsTuple l2 ys) (hx : xs[k1]? = some x) (hy : ys[k2]? = some y)
    (hQ : ∀ h', IsZip h' z TI TO (rawInt s.heap.objs.size) → IsPair h' TO x y → h'.IsListIter i1 l1 (k1 + 1) → h'.IsTupleIter i2 l2 (k2 + 1) → IsPair h' s.heap.objs.size x y → h'.objs.size = s.heap.objs.size + 1 →
      (∀ c o, c ≠ z → c ≠ TO → c ≠ i1 → c ≠ i2 → s.heap.get? c = some o → h'.get? c = some o) → Q (.ref s.heap.objs.size) { s with heap := h' }) :
    wpAny (model prog w) A (Builtin.«zip.__next__» ⟨[.ref z], []⟩) (fun fin s' => ∃ v, fin = .done (.ret v) ∧ Q v s') E s := by
  show wpAny _ _ (field (.ref z) 2 >>= _) _ _ _
  refine wpAny_bind (wpAny_field hz rfl (x := .bool false) rfl ?_)
  show wpAny _ _ (field (.ref z) 3 >>= _) _ _ _
  refine wpAny_bind (wpAny_field hz rfl (x := .ref TI) rfl ?_)
  refine wpAny_bind (wpAny_seqItems hTI rfl ?_)
  show wpAny _ _ (Builtin.SmallTypes.ownedTupleIsFree (.ref z) >>= _) _ _ _
  refine wpAny_bind ?_
  unfold Builtin.SmallTypes.ownedTupleIsFree
  refine wpAny_bind (wpAny_field hz rfl (x := .none) rfl (wpAny_pure ?_))
  simp only [if_true]
  refine wpAny_bind (wpAny_rule ?_)
  refine wpAny_bind (wpAny_field hz rfl (x := .ref TO) rfl ?_)
  refine wpAny_bind (wpAny_setField_rec hz (by simp) fun h₁ hz₁ hs₁ => ?_)
  replace hz₁ : IsZip h₁ z TI TO .ellipsis := hz₁
  refine wpAny_bind ?_
  simp only [List.zipIdx_cons, List.zipIdx_nil, List.forIn_cons, List.forIn_nil]

  refine wpAny_bind (wpAny_bind (wpAny_onRaise ?_))
  show wpAny _ _ (Builtin.SmallTypes.nextOf (.ref i1) >>= _) _ _ _
  refine wpAny_bind (wpAny_nextOf_list_item (h1.extBut hs₁.extBut D.i1z) (hl1.extBut hs₁.extBut D.l1z) hx fun h₂ h1₂ hs₂ => wpAny_pure ?_)
  have hTO₂ : IsPair h₂ TO a b := hs₂.extBut _ _ D.TOi1 (hs₁.extBut _ _ D.TOz hTO)
  refine wpAny_bind (wpAny_seqItems hTO₂ rfl ?_)
  refine wpAny_bind (wpAny_updateSeq_pair hTO₂ fun h₃ hTO₃ hs₃ => ?_)
  replace hTO₃ : IsPair h₃ TO x b := hTO₃
  refine wpAny_bind (wpAny_letGo (wpAny_pure ?_))

  refine wpAny_bind (wpAny_bind (wpAny_onRaise ?_))
  show wpAny _ _ (Builtin.SmallTypes.nextOf (.ref i2) >>= _) _ _ _
  refine wpAny_bind (RZ.nextOf_tuple_item (((h2.extBut hs₁.extBut D.i2z).extBut hs₂.extBut D.i12.symm).extBut hs₃.extBut D.TOi2.symm)
    (((hl2.extBut hs₁.extBut D.l2z).extBut hs₂.extBut D.l2i1).extBut hs₃.extBut D.l2TO) hy fun h₄ h2₄ hs₄ => wpAny_pure ?_)
  have hTO₄ : IsPair h₄ TO x b := hs₄.extBut _ _ D.TOi2 hTO₃
  refine wpAny_bind (wpAny_seqItems hTO₄ rfl ?_)
  refine wpAny_bind (wpAny_updateSeq_pair hTO₄ fun h₅ hTO₅ hs₅ => ?_)
  replace hTO₅ : IsPair h₅ TO x y := hTO₅
  refine wpAny_bind (wpAny_letGo (wpAny_pure (wpAny_pure ?_)))

  refine wpAny_bind (wpAny_seqItems hTO₅ rfl ?_)
  refine wpAny_bind (wpAny_newTuple ?_)
  have hsz : h₅.objs.size = s.heap.objs.size := by rw [hs₅.1, hs₄.1, hs₃.1, hs₂.1, hs₁.1]
  have hz₅ : IsZip h₅ z TI TO .ellipsis := hs₅.extBut _ _ D.TOz.symm (hs₄.extBut _ _ D.i2z.symm (hs₃.extBut _ _ D.TOz.symm (hs₂.extBut _ _ D.i1z.symm hz₁)))
  have hk₅ : ∀ c o, c ≠ z → c ≠ TO → c ≠ i1 → c ≠ i2 → s.heap.get? c = some o → h₅.get? c = some o := fun c o c1 c2 c3 c4 e =>
    hs₅.extBut _ _ c2 (hs₄.extBut _ _ c4 (hs₃.extBut _ _ c2 (hs₂.extBut _ _ c3 (hs₁.extBut _ _ c1 e))))
  have h1₅ : h₅.IsListIter i1 l1 (k1 + 1) := ((h1₂.extBut hs₃.extBut D.TOi1.symm).extBut hs₄.extBut D.i12).extBut hs₅.extBut D.TOi1.symm
  have h2₅ : h₅.IsTupleIter i2 l2 (k2 + 1) := h2₄.extBut hs₅.extBut D.TOi2.symm
  have hzlt : z < h₅.objs.size := Heap.lt_size hz₅
  have hTOlt : TO < h₅.objs.size := Heap.lt_size hTO₅
  have hi1lt : i1 < h₅.objs.size := by obtain ⟨_, e, _⟩ := h1₅; exact Heap.lt_size e
  have hi2lt : i2 < h₅.objs.size := by obtain ⟨_, e, _⟩ := h2₅; exact Heap.lt_size e
  show wpAny _ _ (Builtin.SmallTypes.ownedTupleHandOut (.ref z) (.ref h₅.objs.size) >>= _) _ _ _
  refine wpAny_bind ?_
  unfold Builtin.SmallTypes.ownedTupleHandOut
  have hz₆ : IsZip (h₅.push { cls := .type "tuple", data := .seq #[x, y] }) z TI TO .ellipsis := Heap.get?_push_of_some _ hz₅
  refine wpAny_bind (wpAny_setField_rec hz₆ (by simp) fun h₇ hz₇ hs₇ => ?_)
  replace hz₇ : IsZip h₇ z TI TO (rawInt h₅.objs.size) := hz₇
  refine wpAny_setField_rec hz₇ (by simp) fun h₈ hz₈ hs₈ => ?_
  replace hz₈ : IsZip h₈ z TI TO (rawInt h₅.objs.size) := hz₈
  have up : ∀ c o, c ≠ z → h₅.get? c = some o → h₈.get? c = some o := fun c o c1 e => hs₈.extBut _ _ c1 (hs₇.extBut _ _ c1 (Heap.get?_push_of_some _ e))
  have hT₈ : IsPair h₈ h₅.objs.size x y := hs₈.extBut _ _ (Nat.ne_of_gt hzlt) (hs₇.extBut _ _ (Nat.ne_of_gt hzlt) (Heap.get?_push_size _ rfl))
  have hz8 : h₈.objs.size = h₅.objs.size + 1 := by rw [hs₈.1, hs₇.1, Heap.size_push]
  rw [hsz] at hz₈ hT₈ hz8
  refine wpAny_pure ⟨_, rfl, ?_⟩
  show Q (.ref h₅.objs.size) _
  rw [hsz]
  exact hQ h₈ hz₈ (up _ _ D.TOz hTO₅) (h1₅.at fun o e => up _ o D.i1z e) (h2₅.at fun o e => up _ o D.i2z e) hT₈ hz8 fun c o c1 c2 c3 c4 e => up c o c1 (hk₅ c o c1 c2 c3 c4 e)

theorem zipX_next_end {z TI TO i1 i2 l1 l2 : Addr} {k1 k2 : Nat} {xs ys : Array Value} {a b : Value} {Q : Fin → Shared → Prop} (hh : A.handled = none) (D : ZipApart z TI TO i1 i2 l1 l2)
    (hz : IsZip s.heap z TI TO .none) (hTI : IsPair s.heap TI (.ref i1) (.ref i2)) (hTO : IsPair s.heap TO a b)
    (h1 : s.heap.IsListIter i1 l1 k1) (h2 : s.heap.IsTupleIter i2 l2 k2) (hl1 : s.heap.IsList l1 xs) (hl2 : s.heap.IsTuple l2 ys) (hend : xs[k1]? = none ∨ ys[k2]? = none)
    (hE : ∀ h' e, (∀ c o, c ≠ z → c ≠ TO → c ≠ i1 → c ≠ i2 → s.heap.get? c = some o → h'.get? c = some o) → (∃ o, h'.get? e = some o ∧ o.cls = .type "StopIteration") → E (.ref e) { s with heap := h' }) :
    wpAny (model prog w) A (Builtin.«zip.__next__» ⟨[.ref z], []⟩) Q E s := by
  show wpAny _ _ (field (.ref z) 2 >>= _) _ _ _
  refine wpAny_bind (wpAny_field hz rfl (x := .bool false) rfl ?_)
  show wpAny _ _ (field (.ref z) 3 >>= _) _ _ _
  refine wpAny_bind (wpAny_field hz rfl (x := .ref TI) rfl ?_)
  refine wpAny_bind (wpAny_seqItems hTI rfl ?_)
  show wpAny _ _ (Builtin.SmallTypes.ownedTupleIsFree (.ref z) >>= _) _ _ _
  refine wpAny_bind ?_
  unfold Builtin.SmallTypes.ownedTupleIsFree
  refine wpAny_bind (wpAny_field hz rfl (x := .none) rfl (wpAny_pure ?_))
  simp only [if_true]
  refine wpAny_bind (wpAny_rule ?_)
  refine wpAny_bind (wpAny_field hz rfl (x := .ref TO) rfl ?_)
  refine wpAny_bind (wpAny_setField_rec hz (by simp) fun h₁ hz₁ hs₁ => ?_)
  replace hz₁ : IsZip h₁ z TI TO .ellipsis := hz₁
  refine wpAny_bind ?_
  simp only [List.zipIdx_cons, List.zipIdx_nil, List.forIn_cons, List.forIn_nil]
  refine wpAny_bind (wpAny_bind (wpAny_onRaise ?_))
  show wpAny _ _ (Builtin.SmallTypes.nextOf (.ref i1) >>= _) _ _ _
  cases hx : xs[k1]? with
  | none =>
    refine wpAny_bind (wpAny_nextOf_list_end hh (h1.extBut hs₁.extBut D.i1z) (hl1.extBut hs₁.extBut D.l1z) hx fun h₂ e hs₂ he => ?_)
    obtain ⟨oe, hoe, hce⟩ := he
    have hz₂ : IsZip h₂ z TI TO .ellipsis := hs₂ _ _ D.i1z.symm hz₁
    have hez : e ≠ z := fun x => by subst x; rw [hz₂] at hoe; cases hoe; simp at hce
    refine wpAny_setField_rec hz₂ (by simp) fun h₃ _ hs₃ => hE h₃ e (fun c o c1 _ c3 _ x => hs₃.extBut _ _ c1 (hs₂ _ _ c3 (hs₁.extBut _ _ c1 x))) ⟨oe, hs₃.extBut _ _ hez hoe, hce⟩
  | some x =>
    have hy : ys[k2]? = none := by rcases hend with h | h; rw [hx] at h; cases h; exact h
    refine wpAny_bind (wpAny_nextOf_list_item (h1.extBut hs₁.extBut D.i1z) (hl1.extBut hs₁.extBut D.l1z) hx fun h₂ h1₂ hs₂ => wpAny_pure ?_)
    have hTO₂ : IsPair h₂ TO a b := hs₂.extBut _ _ D.TOi1 (hs₁.extBut _ _ D.TOz hTO)
    refine wpAny_bind (wpAny_seqItems hTO₂ rfl ?_)
    refine wpAny_bind (wpAny_updateSeq_pair hTO₂ fun h₃ hTO₃ hs₃ => ?_)
    refine wpAny_bind (wpAny_letGo (wpAny_pure ?_))
    refine wpAny_bind (wpAny_bind (wpAny_onRaise ?_))
    show wpAny _ _ (Builtin.SmallTypes.nextOf (.ref i2) >>= _) _ _ _
    refine wpAny_bind (RZ.nextOf_tuple_end hh (((h2.extBut hs₁.extBut D.i2z).extBut hs₂.extBut D.i12.symm).extBut hs₃.extBut D.TOi2.symm)
      (((hl2.extBut hs₁.extBut D.l2z).extBut hs₂.extBut D.l2i1).extBut hs₃.extBut D.l2TO) hy fun h₄ e hs₄ he => ?_)
    obtain ⟨oe, hoe, hce⟩ := he
    have hz₄ : IsZip h₄ z TI TO .ellipsis := hs₄ _ _ D.i2z.symm (hs₃.extBut _ _ D.TOz.symm (hs₂.extBut _ _ D.i1z.symm hz₁))
    have hez : e ≠ z := fun x => by subst x; rw [hz₄] at hoe; cases hoe; simp at hce
    refine wpAny_setField_rec hz₄ (by simp) fun h₅ _ hs₅ => hE h₅ e (fun c o c1 c2 c3 c4 x => hs₅.extBut _ _ c1 (hs₄ _ _ c4 (hs₃.extBut _ _ c2 (hs₂.extBut _ _ c3 (hs₁.extBut _ _ c1 x))))) ⟨oe, hs₅.extBut _ _ hez hoe, hce⟩

theorem pyNext_zipX_item {z TI TO i1 i2 l1 l2 : Addr} {k1 k2 : Nat} {xs ys : Array Value} {x y a b : Value} {Q : Option Value → Shared → Prop} (D : ZipApart z TI TO i1 i2 l1 l2)
    (hz : IsZip s.heap z TI TO .none) (hTI : IsPair s.heap TI (.ref i1) (.ref i2)) (hTO : IsPair s.heap TO a b)
    (h1 : s.heap.IsListIter i1 l1 k1) (h2 : s.heap.IsTupleIter i2 l2 k2) (hl1 : s.heap.IsList l1 xs) (hl2 : s.heap.IsTuple l2 ys) (hx : xs[k1]? = some x) (hy : ys[k2]? = some y)
    (hQ : ∀ h', IsZip h' z TI TO (rawInt s.heap.objs.size) → IsPair h' TO x y → h'.IsListIter i1 l1 (k1 + 1) → h'.IsTupleIter i2 l2 (k2 + 1) → IsPair h' s.heap.objs.size x y → h'.objs.size = s.heap.objs.size + 1 →
      (∀ c o, c ≠ z → c ≠ TO → c ≠ i1 → c ≠ i2 → s.heap.get? c = some o → h'.get? c = some o) → Q (some (.ref s.heap.objs.size)) { s with heap := h' }) :
    wpAny (model prog w) A (pyNext (.ref z)) Q E s := by
  have hT : s.TypeIs (.ref z) "zip" := ⟨_, hz, rfl⟩
  unfold pyNext
  exact wpAny_bind (wpAny_attempt (wpAny_callSpecial?_slot (name := Str.ofString "__next__") hT F.slot_zip_next
    (wpAny_call_entry F.slot_zip_next hT F.entry_zip_next
      (zipX_next_item D hz hTI hTO h1 h2 hl1 hl2 hx hy fun h' a1 a2 a3 a4 a5 a6 a7 => wpAny_pure (hQ h' a1 a2 a3 a4 a5 a6 a7)) (F.args_zip_next_1 _))))

theorem pyNext_zipX_end {z TI TO i1 i2 l1 l2 : Addr} {k1 k2 : Nat} {xs ys : Array Value} {a b : Value} {Q : Option Value → Shared → Prop} (hh : A.handled = none) (D : ZipApart z TI TO i1 i2 l1 l2)
    (hz : IsZip s.heap z TI TO .none) (hTI : IsPair s.heap TI (.ref i1) (.ref i2)) (hTO : IsPair s.heap TO a b)
    (h1 : s.heap.IsListIter i1 l1 k1) (h2 : s.heap.IsTupleIter i2 l2 k2) (hl1 : s.heap.IsList l1 xs) (hl2 : s.heap.IsTuple l2 ys) (hend : xs[k1]? = none ∨ ys[k2]? = none)
    (hQ : ∀ h', (∀ c o, c ≠ z → c ≠ TO → c ≠ i1 → c ≠ i2 → s.heap.get? c = some o → h'.get? c = some o) → Q none { s with heap := h' }) : wpAny (model prog w) A (pyNext (.ref z)) Q E s := by
  have hT : s.TypeIs (.ref z) "zip" := ⟨_, hz, rfl⟩
  unfold pyNext
  refine wpAny_bind (wpAny_attempt (wpAny_callSpecial?_slot (name := Str.ofString "__next__") hT F.slot_zip_next
    (wpAny_call_entry F.slot_zip_next hT F.entry_zip_next (zipX_next_end hh D hz hTI hTO h1 h2 hl1 hl2 hend fun h' e hk he => ?_) (F.args_zip_next_1 _))))
  obtain ⟨o, ho, hc⟩ := he
  refine wpAny_bind (wpAny_isInstance (T := "StopIteration") (b := true) ⟨o, ho, hc⟩ isSubtype_stop ?_)
  exact wpAny_pure (hQ _ hk)
end

abbrev zipXH1 (h : Heap) (l1 : Addr) : Heap := h.push { cls := .type "list_iterator", data := .fields #[.ref l1, .int 0 0] }
abbrev zipXH2 (h : Heap) (l1 l2 : Addr) : Heap := (zipXH1 h l1).push { cls := .type "tuple_iterator", data := .fields #[.ref l2, .int 0 0] }
abbrev zipXH3 (h : Heap) (l1 l2 : Addr) : Heap := (zipXH2 h l1 l2).push { cls := .type "tuple", data := .seq #[.ref h.objs.size, .ref (zipXH1 h l1).objs.size] }
abbrev zipXH4 (h : Heap) (l1 l2 : Addr) : Heap := (zipXH3 h l1 l2).push { cls := .type "tuple", data := .seq #[.none, .none] }
abbrev zipXH5 (h : Heap) (l1 l2 : Addr) : Heap := (zipXH4 h l1 l2).push { cls := .type "zip", data := .fields #[.none, .bool false, .bool false, .ref (zipXH2 h l1 l2).objs.size, .ref (zipXH3 h l1 l2).objs.size] }

theorem meets_zipX_new (l1 l2 : Addr) (xs ys : Array Value) :
    Meets (Builtin.«zip.__new__» ⟨[.type "zip", .ref l1, .ref l2], []⟩) (fun _ R s => s.heap.IsList l1 xs ∧ s.heap.IsTuple l2 ys ∧
      R (.ok (.ret (.ref (zipXH4 s.heap l1 l2).objs.size))) { s with heap := zipXH5 s.heap l1 l2 }) :=
  .of_wp fun prog w A R s h => by
    obtain ⟨hp, g, d, tk, os⟩ := s; obtain ⟨hl1, hl2, h⟩ := h
    have hsub := sub_zip
    have hL1 : Heap.IsList (Shared.heap ⟨hp, g, d, tk, os⟩) l1 xs := hl1
    have hL2 : Heap.IsTuple (Shared.heap ⟨hp.push { cls := .type "list_iterator", data := .fields #[.ref l1, .int 0 0] }, g, d, tk, os⟩) l2 ys := Heap.IsTuple.push hl2 _
    wp_walk using wpAny_pyIter_list hL1, wpAny_pyIter_tuple hL2
    exact ⟨_, rfl, h⟩

section
variable {prog : Program} {w : World} {A : Around} {E : Value → Shared → Prop} {s : Shared}

theorem call_zipX {l1 l2 : Addr} {xs ys : Array Value} {Q : Value → Shared → Prop} (hl1 : s.heap.IsList l1 xs) (hl2 : s.heap.IsTuple l2 ys)
    (h : ∀ h', IsZip h' (s.heap.objs.size + 4) (s.heap.objs.size + 2) (s.heap.objs.size + 3) .none → IsPair h' (s.heap.objs.size + 2) (.ref s.heap.objs.size) (.ref (s.heap.objs.size + 1)) →
      IsPair h' (s.heap.objs.size + 3) .none .none → h'.IsListIter s.heap.objs.size l1 0 → h'.IsTupleIter (s.heap.objs.size + 1) l2 0 → h'.objs.size = s.heap.objs.size + 5 →
      (∀ c o, s.heap.get? c = some o → h'.get? c = some o) → Q (.ref (s.heap.objs.size + 4)) { s with heap := h' }) :
    wpAny (model prog w) A (call (.type "zip") [.ref l1, .ref l2]) Q E s := by
  refine callType_new F.called_zip (by decide) (F.typeCall_zip_2 _ _) (F.newCall_zip_2 _ _) (fun obj => F.args_object_init_3 obj _ _) F.entry_zip_new
    (meets_zipX_new l1 l2 xs ys) ⟨hl1, hl2, ?_⟩
  have z1 : (zipXH1 s.heap l1).objs.size = s.heap.objs.size + 1 := Heap.size_push ..
  have z2 : (zipXH2 s.heap l1 l2).objs.size = s.heap.objs.size + 2 := by rw [Heap.size_push, z1]
  have z3 : (zipXH3 s.heap l1 l2).objs.size = s.heap.objs.size + 3 := by rw [Heap.size_push, z2]
  have z4 : (zipXH4 s.heap l1 l2).objs.size = s.heap.objs.size + 4 := by rw [Heap.size_push, z3]
  have z5 : (zipXH5 s.heap l1 l2).objs.size = s.heap.objs.size + 5 := by rw [Heap.size_push, z4]
  have g5 : (zipXH5 s.heap l1 l2).get? (zipXH4 s.heap l1 l2).objs.size = some _ := Heap.get?_push_size _ rfl
  have g4 : (zipXH5 s.heap l1 l2).get? (zipXH3 s.heap l1 l2).objs.size = some _ := Heap.get?_push_of_some _ (Heap.get?_push_size _ rfl)
  have g3 : (zipXH5 s.heap l1 l2).get? (zipXH2 s.heap l1 l2).objs.size = some _ := Heap.get?_push_of_some _ (Heap.get?_push_of_some _ (Heap.get?_push_size _ rfl))
  have g2 : (zipXH5 s.heap l1 l2).get? (zipXH1 s.heap l1).objs.size = some _ := Heap.get?_push_of_some _ (Heap.get?_push_of_some _ (Heap.get?_push_of_some _ (Heap.get?_push_size _ rfl)))
  have g1 : (zipXH5 s.heap l1 l2).get? s.heap.objs.size = some _ := Heap.get?_push_of_some _ (Heap.get?_push_of_some _ (Heap.get?_push_of_some _ (Heap.get?_push_of_some _ (Heap.get?_push_size _ rfl))))
  show _ ∧ _
  rw [z2, z3, z4] at g5
  rw [z1, z2] at g3
  rw [z3] at g4
  rw [z1] at g2
  rw [z4]
  exact ⟨⟨_, g5, rfl⟩, h _ g5 g3 g4 ⟨_, g1, rfl, rfl⟩ ⟨_, g2, rfl, rfl⟩ z5 fun c o x =>
    Heap.get?_push_of_some _ (Heap.get?_push_of_some _ (Heap.get?_push_of_some _ (Heap.get?_push_of_some _ (Heap.get?_push_of_some _ x))))⟩
end
end
end DL
namespace DL
open PySem PySem.Spec PyProof.Rows L2
/-- a list and a tuple, walked together -/
def ItzX (K : PySem.W.Frag) (a b : Addr) : It :=
  ⟨fun i H => ∃ (xs ys : List V) (x y : V), SqL K H a xs ∧ SqT K H b ys ∧ xs[i]? = some x ∧ ys[i]? = some y,
    fun i H v H' => ∃ T x y, v = .ref T ∧ H T = none ∧ H' = upd H T (.tup [x, y]) ∧ (∀ xs, SqL K H a xs → xs[i]? = some x) ∧ ∀ ys, SqT K H b ys → ys[i]? = some y,
    fun i H => ∃ xs ys : List V, SqL K H a xs ∧ SqT K H b ys ∧ (xs.length ≤ i ∨ ys.length ≤ i)⟩
theorem turn_zipX {P : Program} {w : World} {K : PySem.W.Frag} {elts : List Expr} {kk : Nat} {tpos : Pos} {a b z TI TO i1 i2 : Addr} (D : ZipApart z TI TO i1 i2 a b) :
    Turn P w K (.Tuple elts kk tpos) (ItzX K a b) [z, TI, TO, i1, i2] z (fun i h => IsZip h z TI TO .none ∧ IsPair h TI (.ref i1) (.ref i2) ∧ (∃ x y, IsPair h TO x y) ∧ h.IsListIter i1 a i ∧ h.IsTupleIter i2 b i) where
  mem := by simp
  obj := fun i h st c hc => by
    obtain ⟨hz, hTI, ⟨x, y, hTO⟩, ⟨o1, e1, _, d1⟩, ⟨o2, e2, _, d2⟩⟩ := st
    have e' : c = z ∨ c = TI ∨ c = TO ∨ c = i1 ∨ c = i2 := by simpa using hc
    rcases e' with q | q | q | q | q
    · rw [q]; exact ⟨_, hz, fun v q => nomatch q⟩
    · rw [q]; exact ⟨_, hTI, fun v q => nomatch q⟩
    · rw [q]; exact ⟨_, hTO, fun v q => nomatch q⟩
    · rw [q]; exact ⟨o1, e1, fun v q => by rw [d1] at q; cases q⟩
    · rw [q]; exact ⟨o2, e2, fun v q => by rw [d2] at q; cases q⟩
  keep := fun i h h' st k => by
    obtain ⟨hz, hTI, ⟨x, y, hTO⟩, h1, h2⟩ := st
    exact ⟨k z (by simp) _ hz, k TI (by simp) _ hTI, ⟨x, y, k TO (by simp) _ hTO⟩, h1.at fun o q => k i1 (by simp) o q, h2.at fun o q => k i2 (by simp) o q⟩
  item := by
    intro X hP hw hK hc i pins s σ H E I hf st hg
    subst hP hw hK
    obtain ⟨hz, hTI, ⟨x0, y0, hTO⟩, h1, h2⟩ := st
    obtain ⟨xs, ys, x, y, hqx, hqy, hx, hy⟩ := hg
    obtain ⟨its, rv, p, _⟩ := I.list hqx
    obtain ⟨its2, rv2, p2, _⟩ := I.tuple hqy
    obtain ⟨u, hu, ru⟩ := rv.get hx
    obtain ⟨u2, hu2, ru2⟩ := rv2.get hy
    have hzl : z < s.heap.objs.size := Heap.lt_size hz
    refine pyNext_zipX_item D hz hTI hTO h1 h2 p.isList p2 (x := u) (y := u2) (by simpa using hu) (by simpa using hu2) fun h' z' TO' h1' h2' hT hsz hk => ?_
    refine ⟨_, rfl, wpAny_letOwnedTupleGo_zip (s := { s with heap := h' }) z' fun h'' z'' sb => ?_⟩
    have hT2 : h''.get? s.heap.objs.size = some { cls := .type "tuple", data := .seq #[u, u2] } := (sb.2 _ (Nat.ne_of_gt hzl)).trans hT
    have new : ObjOk X.prog X.w (upd H s.heap.objs.size (.tup [x, y])) h'' s.heap.objs.size (.tup [x, y]) :=
      ⟨by show 2 ≤ sizeLine; decide, [u, u2], .cons ru (.cons ru2 .nil), ⟨_, hT2, rfl, _, rfl⟩⟩
    have I1 : Inv X pins σ (upd H s.heap.objs.size (.tup [x, y])) { s with heap := h'' } :=
      I.turnedNew (t' := s.toks) (ch := [z, TI, TO, i1, i2]) (fun c o hb q => (sb.2 c (fun q' => hb (by simp [q']))).trans (hk c o (fun q' => hb (by simp [q'])) (fun q' => hb (by simp [q'])) (fun q' => hb (by simp [q'])) (fun q' => hb (by simp [q'])) q)) hf (Nat.le_refl _) new
    refine ⟨.ref s.heap.objs.size, _, I1, rfl, ⟨_, x, y, rfl, I.hok.fresh (Nat.le_refl _), rfl, fun l hl => by rw [I.list_inj hl hqx]; exact hx, fun l hl => by rw [I.tuple_inj hl hqy]; exact hy⟩, ⟨z'', ?_, ⟨u, u2, ?_⟩, ?_, ?_⟩, fun c hcm => ?_⟩
    · exact (sb.2 _ D.TIz).trans (hk _ _ D.TIz D.TITO D.TIi1 D.TIi2 hTI)
    · exact (sb.2 _ D.TOz).trans TO'
    · exact h1'.at fun o q => (sb.2 _ D.i1z).trans q
    · exact h2'.at fun o q => (sb.2 _ D.i2z).trans q
    · have hlt : c < s.heap.objs.size := by
        have e' : c = z ∨ c = TI ∨ c = TO ∨ c = i1 ∨ c = i2 := by simpa using hcm
        rcases e' with q | q | q | q | q
        · rw [q]; exact hzl
        · rw [q]; exact Heap.lt_size hTI
        · rw [q]; exact Heap.lt_size hTO
        · rw [q]; obtain ⟨_, e1, _⟩ := h1; exact Heap.lt_size e1
        · rw [q]; obtain ⟨_, e2, _⟩ := h2; exact Heap.lt_size e2
      rw [upd_ne (Nat.ne_of_lt hlt)]
      exact (hf c hcm).1
  done := by
    intro X hP hw hK hc i pins s σ H E I hf st hg
    subst hP hw hK
    obtain ⟨hz, hTI, ⟨x0, y0, hTO⟩, h1, h2⟩ := st
    obtain ⟨xs, ys, hqx, hqy, hend⟩ := hg
    obtain ⟨its, rv, p, _⟩ := I.list hqx
    obtain ⟨its2, rv2, p2, _⟩ := I.tuple hqy
    have l1 := rv.length
    have l2 := rv2.length
    have he : its.toArray[i]? = none ∨ its2.toArray[i]? = none := by
      rcases hend with q | q
      · exact .inl (by simp; omega)
      · exact .inr (by simp; omega)
    exact pyNext_zipX_end (I.ok.hd hc) D hz hTI hTO h1 h2 p.isList p2 he fun h' hk => ⟨rfl, I.turnedL (t' := s.toks) (ch := [z, TI, TO, i1, i2]) (fun c o hb q =>
      hk c o (fun q' => hb (by simp [q'])) (fun q' => hb (by simp [q'])) (fun q' => hb (by simp [q'])) (fun q' => hb (by simp [q'])) q) hf⟩
  self := fun A i s Q E st h => wpAny_pyIter_zip st.1 h

def iZipX (K : PySem.W.Frag) (ta : TA) : TI := fun σ H R => ta σ H fun vs H1 => ∃ a b xs ys, vs = [.ref a, .ref b] ∧ SqL K H1 a xs ∧ SqT K H1 b ys ∧ R (ItzX K a b) H1
theorem pi_zipX {X : Cx} {e e2 : Expr} {ta : TA} {p pos tpos : Pos} {elts : List Expr} {kk : Nat} (hg : Gl X "zip") (hm : X.mg "zip" = none) (ha : PA X [e, e2] ta)
    (hs : starEach [e, e2] X.env = (false, eval e X.env) :: starEach [e2] X.env := by rfl) (hpl : (backTo pos (starEach [e2] X.env)).any (·.1) = false := by rfl) :
    PI X (.Tuple elts kk tpos) (.Call (.Name "zip" p) [e, e2] [] pos) (iZipX X.K ta) := by
  refine ⟨fun pins s σ H R I h => ?_⟩
  refine Call_ (ld_blt I hg hm PyProof.Rows.boot_zip (PyProof.Rows.callWith_type1 (thn (ha.run pos pins s σ H _ I h) fun us s1 ⟨vs, H1, I1, r1, q1⟩ => ?_) hs hpl))
  obtain ⟨a, b, xs, ys, ex, hqx, hqy, q⟩ := q1
  subst ex
  cases r1 with
  | cons r rr =>
    cases rr with
    | cons r' rr =>
      cases rr
      cases r
      cases r'
      have fresh5 : ∀ c, c ∈ [s1.heap.objs.size + 4, s1.heap.objs.size + 2, s1.heap.objs.size + 3, s1.heap.objs.size, s1.heap.objs.size + 1] → FpOk X pins H1 c := fun c hcm => by
        have e' : c = s1.heap.objs.size + 4 ∨ c = s1.heap.objs.size + 2 ∨ c = s1.heap.objs.size + 3 ∨ c = s1.heap.objs.size ∨ c = s1.heap.objs.size + 1 := by simpa using hcm
        have hle : s1.heap.objs.size ≤ c := by
          rcases e' with z | z | z | z | z
          · rw [z]; exact Nat.le_add_right _ _
          · rw [z]; exact Nat.le_add_right _ _
          · rw [z]; exact Nat.le_add_right _ _
          · rw [z]; exact Nat.le_refl _
          · rw [z]; exact Nat.le_add_right _ _
        exact I1.fpOk hle (I1.hok.fresh hle)
      obtain ⟨its, rv, p1, _⟩ := I1.list hqx
      obtain ⟨its2, rv2, p2, _⟩ := I1.tuple hqy
      obtain ⟨o2, ho2, _⟩ := id p2
      refine call_zipX p1.isList (show s1.heap.IsTuple b its2.toArray from p2) fun h' hz hTI hTO h1 h2 hsz hk => wpAny_pyIter_zip hz ?_
      have I2 : Inv X pins σ H1 { s1 with heap := h' } := I1.kept (t' := s1.toks) hk
      exact ⟨s1.heap.objs.size + 4, [s1.heap.objs.size + 4, s1.heap.objs.size + 2, s1.heap.objs.size + 3, s1.heap.objs.size, s1.heap.objs.size + 1], _, _, H1, rfl, I2, turn_zipX (PySem.W.ktu_apart s1.heap.objs.size a b p1.lt (Heap.lt_size ho2)), ⟨hz, hTI, ⟨_, _, hTO⟩, h1, h2⟩, fresh5, q⟩
end DL
namespace DL
open PySem PySem.Spec PyProof.Rows L2
section
variable {K : PySem.W.Frag} {Γ : Sl} {m : Mem}
theorem pi_zipXK {X : Cx} {e e2 : Expr} {ta : TA} {p pos tpos : Pos} {elts : List Expr} {kk : Nat} (h : X.K = K) (hg : Gl X "zip") (hm : X.mg "zip" = none) (ha : PA X [e, e2] ta)
    (hs : starEach [e, e2] X.env = (false, eval e X.env) :: starEach [e2] X.env := by rfl) (hpl : (backTo pos (starEach [e2] X.env)).any (·.1) = false := by rfl) :
    PI X (.Tuple elts kk tpos) (.Call (.Name "zip" p) [e, e2] [] pos) (iZipX K ta) := h ▸ pi_zipX hg hm ha hs hpl
theorem yl_zipX {F : Hp} {a b : Addr} {xs ys : List V} {ds es : List PyData} (h1 : SqL K F a xs) (h2 : DqAll K F xs ds) (h3 : SqT K F b ys) (h4 : DqAll K F ys es) : Yl K (ItzX K a b) F G0 (zpS ds es) where
  at_ := fun i d F' m' R H' hd e c _ => by
    obtain ⟨d0, e0, hd', he', rfl⟩ := zpS_get hd
    obtain ⟨v, hv, hp⟩ := dpa_get h2 hd'
    obtain ⟨u, hu, hq⟩ := dpa_get h4 he'
    have hs : SqL K H' a xs := (e.trans (cn_sub c)).seq h1
    have ht : SqT K H' b ys := same_sqt (e.trans (cn_sub c)) h3
    refine ⟨⟨xs, ys, v, u, hs, ht, hv, hu⟩, fun x H2 ⟨T, y, z, ex, hT, eH, hx, hz⟩ => ?_⟩
    subst ex; subst eH
    have := hx xs hs
    rw [hv] at this; cases this
    have := hz ys ht
    rw [hu] at this; cases this
    have hf := (cn_fresh c hT).1
    refine ⟨upd F' T (.tup [v, u]), same_new hf, cn_newF c hT, Dq.tup upd_same (.cons (dp_mono (e.trans (same_new hf)) hp) (.cons (dp_mono (e.trans (same_new hf)) hq) .nil))⟩
  stop := fun F' m' R H' e c _ => ⟨xs, ys, (e.trans (cn_sub c)).seq h1, same_sqt (e.trans (cn_sub c)) h3, by
    have e1 := dpa_len h2
    have e2 := dpa_len h4
    unfold zpS
    rw [List.length_map, List.length_zip]
    omega⟩
theorem ari_zipX {ta : TA} {Z : List S → (Mem → Prop) → Mem → Prop} (h : ARA K ta Γ m fun xs m1 => ∃ ds es, xs = [.d (.list ds), .d (.tuple es)] ∧ Z (zpS ds es) G0 m1) : ARI K (iZipX K ta) Γ m Z := fun σ F R H R' g c k =>
  h σ F R H _ g c fun vs xs F1 m1 H1 e1 c1 r1 q1 => by
    obtain ⟨ds, es, rfl, q⟩ := q1
    cases r1 with
    | cons ra b =>
      cases b with
      | cons rb b' =>
      cases b'
      obtain ⟨a, xs, rfl, h1, h2⟩ := dp_list ra
      obtain ⟨b, ys, rfl, h3, h4⟩ := dp_tup rb
      exact ⟨a, b, xs, ys, rfl, (cn_sub c1).seq h1, same_sqt (cn_sub c1) h3, k _ _ _ F1 m1 H1 e1 c1 (yl_zipX h1 h2 h3 h4) True.intro q⟩
theorem ex_zipX {a b : List PyData} {P : List PyData → List PyData → Prop} (h : P a b) : ∃ ds es, [S.d (.list a), S.d (.tuple b)] = [S.d (.list ds), S.d (.tuple es)] ∧ P ds es := ⟨a, b, rfl, h⟩
end
end DL

namespace DL
open PySem PySem.Spec PyProof.Rows L2
theorem snoc_ex {α : Type} {pre : List α} {s : α} {P : α → Prop} : (∃ x, x ∈ pre ++ [s] ∧ P x) ↔ (∃ x, x ∈ pre ∧ P x) ∨ P s := (by
  constructor
  · rintro ⟨x, h, p⟩
    rcases List.mem_append.mp h with h | h
    · exact .inl ⟨x, h, p⟩
    · rw [List.mem_singleton.mp h] at p; exact .inr p
  · rintro (⟨x, h, p⟩ | p)
    · exact ⟨x, List.mem_append_left _ h, p⟩
    · exact ⟨s, by simp, p⟩)
theorem snoc_all {α : Type} {pre : List α} {s : α} {P : α → Prop} : (∀ x, x ∈ pre ++ [s] → P x) ↔ (∀ x, x ∈ pre → P x) ∧ P s := (by
  constructor
  · intro h
    exact ⟨fun x hx => h x (List.mem_append_left _ hx), h s (by simp)⟩
  · rintro ⟨h, p⟩ x hx
    rcases List.mem_append.mp hx with h2 | h2
    · exact h x h2
    · rw [List.mem_singleton.mp h2]; exact p)
theorem pre_lt {α : Type} {xs pre post : List α} {x : α} (h : xs = pre ++ x :: post) : pre.length < xs.length ∧ x ∈ xs := (by
  subst h; simp)
theorem enum_lt {α : Type} {xs : List α} {x : α × Nat} (h : x ∈ xs.zipIdx) : x.2 < xs.length ∧ x.1 ∈ xs := (by
  obtain ⟨a, i⟩ := x
  have h2 := List.mem_zipIdx h
  refine ⟨by simpa using h2.2.1, ?_⟩
  rw [h2.2.2]
  exact List.getElem_mem _)
theorem mset_swap2 {m : Mem} {a p r : Addr} {c c' d e : C} (h : a ≠ p) (h2 : a ≠ r) : mset (mset (mset (mset m a c) p d) r e) a c' = mset (mset (mset m a c') p d) r e := (by
  rw [mset_comm (Ne.symm h2), mset_swap h])
theorem mset_swapB {m : Mem} {a p r : Addr} {c d e : C} (h : a ≠ p) (h2 : a ≠ r) (hm : m a = some c) : mset (mset (mset m p d) r e) a c = mset (mset m p d) r e := (by
  refine mset_self ?_
  rw [mset_ne h2, mset_ne h, hm])
noncomputable def dcd (p : Prop) : Bool := @decide p (Classical.propDecidable p)
theorem dcd_iff {p : Prop} : dcd p = true ↔ p := @decide_eq_true_iff p (Classical.propDecidable p)
theorem dcd_eq {p : Prop} {b : Bool} (h : b = true ↔ p) : b = dcd p := by rw [Bool.eq_iff_iff, h, dcd_iff]
section
variable {K : PySem.W.Frag} {Γ : Sl} {m : Mem} {Q : S → Mem → Prop}
/-- an item of a list, at a drawn place -/
theorem ix_pk {α : Type} {xs : List α} {f : α → PyData} {i : Int} (h0 : 0 ≤ i) (h1 : i < xs.length) (q : ∀ x, x ∈ xs → Q (.d (f x)) m) : LO K (rIX K) (.d (.list (xs.map f))) (.d (.int i)) m Q := (by
  obtain ⟨n, h2, h3⟩ := at_int h0 h1
  exact ix_l (atI_map h2) (q n h3))
theorem ix_pkO {α : Type} {p : Addr} {xs : List α} {f : α → S} {i : Int} (hm : m p = some (.lst (xs.map f))) (h0 : 0 ≤ i) (h1 : i < xs.length) (q : ∀ x, x ∈ xs → Q (f x) m) : LO K (rIX K) (.r p) (.d (.int i)) m Q := (by
  obtain ⟨n, h2, h3⟩ := at_int h0 h1
  exact ix_o hm (atI_map h2) (q n h3))
/-- an item of a list, at a place told -/
theorem ix_n {α : Type} {xs : List α} {f : α → PyData} {n : Nat} (h1 : n < xs.length) (q : ∀ x, xs[n]? = some x → Q (.d (f x)) m) : LO K (rIX K) (.d (.list (xs.map f))) (.d (.int (n : Nat))) m Q :=
  ix_l (atm (List.getElem?_eq_getElem h1)) (q _ (List.getElem?_eq_getElem h1))
theorem ix_set {ss : List (List Int)} {n : Nat} (h1 : n < ss.length) (q : Q (.d (dI (ss.getD n []))) m) : LO K (rIX K) (.d (dSets ss)) (.d (.int (n : Nat))) m Q :=
  ix_l (atm (f := dI) (x := ss.getD n []) (by rw [List.getElem?_eq_getElem h1, List.getD_eq_getElem?_getD, List.getElem?_eq_getElem h1]; rfl)) q
theorem plus_m {α : Type} {f : α → PyData} {xs ys : List α} (hl : xs.length + ys.length ≤ 1000000) (q : Q (.d (.list ((xs ++ ys).map f))) m) : LO K (rPlus K) (.d (.list (xs.map f))) (.d (.list (ys.map f))) m Q :=
  plus_l (by rw [List.length_map, List.length_map]; exact hl) (by rw [← List.map_append]; exact q)
theorem plus_m1 {α : Type} {f : α → PyData} {xs : List α} {y : α} (hl : xs.length + 1 ≤ 1000000) (q : Q (.d (.list ((xs ++ [y]).map f))) m) : LO K (rPlus K) (.d (.list (xs.map f))) (.d (.list [f y])) m Q :=
  plus_l (by rw [List.length_map]; exact hl) (by rw [show [f y] = [y].map f from rfl, ← List.map_append]; exact q)
theorem plus_1m {α : Type} {f : α → PyData} {xs : List α} {y : α} (hl : 1 + xs.length ≤ 1000000) (q : Q (.d (.list ((y :: xs).map f))) m) : LO K (rPlus K) (.d (.list [f y])) (.d (.list (xs.map f))) m Q :=
  plus_l (by rw [List.length_map]; exact hl) (by rw [show [f y] = [y].map f from rfl, ← List.map_append]; exact q)
theorem ix_lit2 {ds : List PyData} {i : Int} (hi : (ds.map unI).map PyData.int = ds) (h0 : 0 ≤ i) (h1 : i < ds.length) (q : ∀ n, n ∈ ds.map unI → Q (.d (.int n)) m) : LO K (rIX K) (.d (.list ds)) (.d (.int i)) m Q := ix_lit hi h0 h1 q
end
end DL

namespace DL
open PySem PySem.Spec PyProof.Rows L2
/-! ### own classes: instances by cell -/
def clsOf (mg : Str → Option Value) (n : Str) : Addr := match mg n with
  | some (.ref C) => C
  | _ => 0
section
variable {P : Program} {w : World} {K : PySem.W.Frag} {mg : Str → Option Value} {base : Heap}
structure TopM (K : PySem.W.Frag) (C : Addr) (qual m : Str) (st : Stmt) (ps : List Str) : Prop where
  ex : ∃ (f : Addr) (fd : FuncData), Fun K m qual st f fd ∧ Meth K C m f ∧ ∀ us : List Value, us.length = ps.length → bindArgs fd ⟨us, []⟩ = pure (ps.zip us)
structure TopI (K : PySem.W.Frag) (C : Addr) (qual : Str) (st : Stmt) (ps : List Str) : Prop where
  ex : ∃ (f : Addr) (fd : FuncData), Fun K "__init__" qual st f fd ∧ Mk K C f ∧ ∀ us : List Value, us.length = ps.length → bindArgs fd ⟨us, []⟩ = pure (ps.zip us)
structure CalM (P : Program) (w : World) (K : PySem.W.Frag) (mg : Str → Option Value) (base : Heap) (k n : Nat) (C : Addr) (m : Str) (fs : FS) : Prop where
  ex : ∃ (f : Addr) (fd : FuncData) (ps : List Str), FnOk P w K mg base CX0 k f fd ps (toSp K (LF n fs)) ∧ Meth K C m f ∧ Binds K fd ps []
structure CalI (P : Program) (w : World) (K : PySem.W.Frag) (mg : Str → Option Value) (base : Heap) (k n : Nat) (C : Addr) (fs : FS) : Prop where
  ex : ∃ (f : Addr) (fd : FuncData) (ps : List Str), FnOk P w K mg base CX0 k f fd ps (toSp K (LF n fs)) ∧ Mk K C f ∧ Binds K fd ps []
theorem fnok_imp {k n : Nat} {f : Addr} {fd : FuncData} {ps : List Str} {fs fs' : FS} (F : FnOk P w K mg base CX0 k f fd ps (toSp K (LF n fs))) (h : ∀ xs m Z, fs' xs m Z → fs xs m Z) : FnOk P w K mg base CX0 k f fd ps (toSp K (LF n fs')) :=
  F.imp fun vs H Q E ⟨F, R, m, xs, Z, h1, h2, h3, h4⟩ => ⟨F, R, m, xs, Z, h1, h2, ⟨h3.1, h _ _ _ h3.2⟩, h4⟩
theorem calm_imp {k n : Nat} {C : Addr} {m : Str} {fs fs' : FS} (c : CalM P w K mg base k n C m fs) (h : ∀ xs m Z, fs' xs m Z → fs xs m Z) : CalM P w K mg base k n C m fs' := (by
  obtain ⟨f, fd, ps, F, a, b⟩ := c.ex
  exact ⟨f, fd, ps, fnok_imp F h, a, b⟩)
theorem calm_mono {j k n : Nat} {C : Addr} {m : Str} {fs : FS} (c : CalM P w K mg base j n C m fs) (h : j ≤ k) : CalM P w K mg base k n C m fs := (by
  obtain ⟨f, fd, ps, F, a, b⟩ := c.ex
  exact ⟨f, fd, ps, F.mono h, a, b⟩)
/-- a method that is never called -/
theorem calm_none {C : Addr} {qual m : Str} {st : Stmt} {ps : List Str} (T : TopM K C qual m st ps) : CalM P w K mg base 0 ps.length C m (fun _ _ _ => False) := (by
  obtain ⟨f, fd, F, hm, b⟩ := T.ex
  exact ⟨f, fd, ps, ⟨fun vs H Q E ⟨_, _, _, _, _, _, _, h, _⟩ => h.2.elim, fun A outer s H args us vs Q E _ _ _ _ ⟨_, _, _, _, _, _, _, h, _⟩ => h.2.elim⟩, hm, .all b⟩)
theorem cal_none {x : Str} {st : Stmt} {ps : List Str} (T : Top K mg x st ps) : Cal P w K mg base 0 ps.length x (fun _ _ _ => False) := (by
  obtain ⟨f, fd, F, hm, b⟩ := T.ex
  exact ⟨f, fd, ps, ⟨fun vs H Q E ⟨_, _, _, _, _, _, _, h, _⟩ => h.2.elim, fun A outer s H args us vs Q E _ _ _ _ ⟨_, _, _, _, _, _, _, h, _⟩ => h.2.elim⟩, hm, F.kp, .all b⟩)
theorem calm_dl {C : Addr} {qual m : Str} {st : Stmt} {N ps : List Str} {k : Nat} {fs : FS} (T : TopM K C qual m st ps) (S : FnScope N ps (defScope st))
    (hbody : ∀ (f : Addr) (cdv : Value) (A : Around) (outer : List Env) (s : Shared) (H : Hp) (E : XK), Room k (A.deeper (envOfC qual (defScope st) s.heap.objs.size f cdv)) →
      ∃ t, PSs (cxOf CX0 P w K mg base N qual (defScope st) f cdv A outer s H E).nox (defBody st) t ∧
        ∀ xs m Z, fs xs m Z → ARS K t (xs.map some ++ List.replicate (N.length - xs.length) none) m { nx := fun _ m' => RT Z (.d .none) m', rt := RT Z }) : CalM P w K mg base (k + 1) ps.length C m fs := by
  obtain ⟨f, fd, F, hm, b⟩ := T.ex
  exact ⟨f, fd, ps, fn_dl F S (hbody f), hm, .all b⟩
theorem cali_dl {C : Addr} {qual : Str} {st : Stmt} {N ps : List Str} {k : Nat} {fs : FS} (T : TopI K C qual st ps) (S : FnScope N ps (defScope st))
    (hbody : ∀ (f : Addr) (cdv : Value) (A : Around) (outer : List Env) (s : Shared) (H : Hp) (E : XK), Room k (A.deeper (envOfC qual (defScope st) s.heap.objs.size f cdv)) →
      ∃ t, PSs (cxOf CX0 P w K mg base N qual (defScope st) f cdv A outer s H E).nox (defBody st) t ∧
        ∀ xs m Z, fs xs m Z → ARS K t (xs.map some ++ List.replicate (N.length - xs.length) none) m { nx := fun _ m' => RT Z (.d .none) m', rt := RT Z }) : CalI P w K mg base (k + 1) ps.length C fs := by
  obtain ⟨f, fd, F, hm, b⟩ := T.ex
  exact ⟨f, fd, ps, fn_dl F S (hbody f), hm, .all b⟩
end
section
variable {K : PySem.W.Frag} {X : Cx} {C : Addr} {k j n : Nat} {m x : Str} {fs : FS} {o e : Expr} {es : List Expr} {p apos pos : Pos} {to : TE} {t : TA}
theorem pe_mK {pl : Sem Bool} (h : X.K = K) (c : CalM X.prog X.w K X.mg X.base k n C m fs) (hr : Room j X.A) (hk : k ≤ j) (cl : Cls K C) (he : PE X o to) (ha : PA X (e :: es) t)
    (hst : starEach (e :: es) X.env = (false, eval e X.env) :: starEach es X.env := by rfl) (hpl : (backTo pos (starEach es X.env)).any (·.1) = false := by rfl)
    (ht : eval (.Call (.Attribute o m apos) (e :: es) [] pos) X.env = (do
      let a ← eval o X.env
      standAt apos.atName
      let (f, first) ← holding [a] (getMethod a m pl)
      callWith pos f first (backTo pos (starEach (e :: es) X.env)) (backToKw pos (keywordEach [] X.env))) := by rfl) :
    PE X (.Call (.Attribute o m apos) (e :: es) [] pos) (tMeth C m (toSp K (LF n fs)) [] E0 to t) := by
  subst h
  obtain ⟨f, fd, ps, F, hm, b⟩ := c.ex
  exact pe_meth he cl hm F (hr.mono hk) b .nil pass0 ha hst hpl ht
theorem pe_m0K {pl : Sem Bool} (h : X.K = K) (c : CalM X.prog X.w K X.mg X.base k n C m fs) (hr : Room j X.A) (hk : k ≤ j) (cl : Cls K C) (he : PE X o to)
    (ht : eval (.Call (.Attribute o m apos) [] [] pos) X.env = (do
      let a ← eval o X.env
      standAt apos.atName
      let (f, first) ← holding [a] (getMethod a m pl)
      callWith pos f first (backTo pos (starEach [] X.env)) (backToKw pos (keywordEach [] X.env))) := by rfl) :
    PE X (.Call (.Attribute o m apos) [] [] pos) (tMeth C m (toSp K (LF n fs)) [] E0 to tNil) := by
  subst h
  obtain ⟨f, fd, ps, F, hm, b⟩ := c.ex
  exact pe_meth0 he cl hm F (hr.mono hk) b .nil pass0 ht
theorem pe_mkK (h : X.K = K) (c : CalI X.prog X.w K X.mg X.base k n C fs) (hr : Room j X.A) (hk : k + 1 ≤ j) (hg : Gl X x) (hm : X.mg x = some (.ref C)) (ha : PA X (e :: es) t)
    (hdb : (x == ("__debug__" : Str)) = false := by decide) (he : starEach (e :: es) X.env = (false, eval e X.env) :: starEach es X.env := by rfl) (hpl : (backTo pos (starEach es X.env)).any (·.1) = false := by rfl) :
    PE X (.Call (.Name x p) (e :: es) [] pos) (tMake C (toSp K (LF n fs)) [] E0 t) := by
  subst h
  obtain ⟨f, fd, ps, F, M, b⟩ := c.ex
  exact pe_make M F (hr.mono hk) hg hm b .nil pass0 ha hdb he hpl
theorem pe_mk0K (h : X.K = K) (c : CalI X.prog X.w K X.mg X.base k n C fs) (hr : Room j X.A) (hk : k + 1 ≤ j) (hg : Gl X x) (hm : X.mg x = some (.ref C)) (hdb : (x == ("__debug__" : Str)) = false := by decide) :
    PE X (.Call (.Name x p) [] [] pos) (tMake C (toSp K (LF n fs)) [] E0 tNil) := by
  subst h
  obtain ⟨f, fd, ps, F, M, b⟩ := c.ex
  exact pe_make0 M F (hr.mono hk) hg hm b .nil pass0 hdb
theorem pe_fldK {f : Str} (h : X.K = K) (he : PE X e to) (hb : attributeBase e f X.env (eval e X.env) = eval e X.env) : PE X (.Attribute e f pos) (tFld K to f) := h ▸ pe_fld he hb
theorem ps_fldK {value : Expr} {tv : TE} {f : Str} {pos' : Pos} (h : X.K = K) (ha : PE X o to) (hv : PE X value tv) (hs : swapsWith value (some (.Attribute o f pos')) pos.line X.env = pure false) : PS X (.Assign [.Attribute o f pos'] value pos) (sFld K to tv f) := h ▸ ps_fld ha hv hs
end
section
variable {K : PySem.W.Frag} {Γ : Sl} {m : Mem} {Q : S → Mem → Prop} {to : TE} {f : Str}
/-! fields by name -/
theorem lk_h {y : S} {r : List (Str × S)} : List.lookup f ((f, y) :: r) = some y := by simp [List.lookup]
theorem lk_t {g : Str} {y z : S} {r : List (Str × S)} (h : ¬ f = g) (k : r.lookup f = some y) : List.lookup f ((g, z) :: r) = some y := (by
  rw [List.lookup, show (f == g) = false from beq_eq_false_iff_ne.mpr h]; exact k)
theorem lk_n {g : Str} {z : S} {r : List (Str × S)} (h : ¬ f = g) (k : r.lookup f = none) : List.lookup f ((g, z) :: r) = none := (by
  rw [List.lookup, show (f == g) = false from beq_eq_false_iff_ne.mpr h]; exact k)
theorem lk_0 : List.lookup f ([] : List (Str × S)) = none := rfl
inductive PutR (f : Str) (y : S) : List (Str × S) → List (Str × S) → Prop
  | nil : PutR f y [] [(f, y)]
  | here {z : S} {r : List (Str × S)} : PutR f y ((f, z) :: r) ((f, y) :: r)
  | there {g : Str} {z : S} {r r' : List (Str × S)} : ¬ g = f → PutR f y r r' → PutR f y ((g, z) :: r) ((g, z) :: r')
abbrev RF (K : PySem.W.Frag) (F : Hp) : List (Str × V) → List (Str × S) → Prop := Paired (fun (p : Str × V) (q : Str × S) => p.1 = q.1 ∧ RS K F p.2 q.2)
theorem rf_put {F : Hp} {y : S} {v : V} (r : RS K F v y) : ∀ {vs : List (Str × V)} {fs fs' : List (Str × S)}, RF K F vs fs → PutR f y fs fs' → RF K F (putF f v vs) fs'
  | _, _, _, .nil, .nil => .cons ⟨rfl, r⟩ .nil
  | (g, u) :: vs, _, _, .cons h t, .here => by
    show RF K F (if g = f then (g, v) :: vs else (g, u) :: putF f v vs) _
    rw [if_pos (show g = f from h.1)]
    exact .cons ⟨h.1, r⟩ t
  | (g, u) :: vs, _, _, .cons h t, .there hn p => by
    show RF K F (if g = f then (g, v) :: vs else (g, u) :: putF f v vs) _
    rw [if_neg (fun e : g = f => hn ((show g = _ from h.1).symm.trans e))]
    exact .cons h (rf_put r t p)
theorem rf_lk {F : Hp} {y : S} : ∀ {vs : List (Str × V)} {fs : List (Str × S)}, RF K F vs fs → fs.lookup f = some y → ∃ v, vs.lookup f = some v ∧ RS K F v y
  | _, _, .nil, e => by cases e
  | (g, u) :: vs, (g', z) :: fs, .cons ⟨h1, h2⟩ t, e => by
    cases (show g = g' from h1)
    rw [List.lookup] at e ⊢
    cases hb : f == g with
    | true => rw [hb] at e; cases e; exact ⟨u, rfl, h2⟩
    | false => rw [hb] at e; exact rf_lk t e
theorem rf_no {F : Hp} : ∀ {vs : List (Str × V)} {fs : List (Str × S)}, RF K F vs fs → fs.lookup f = none → vs.lookup f = none
  | _, _, .nil, e => rfl
  | (g, u) :: vs, (g', z) :: fs, .cons ⟨h1, h2⟩ t, e => by
    cases (show g = g' from h1)
    rw [List.lookup] at e ⊢
    cases hb : f == g with
    | true => rw [hb] at e; cases e
    | false => rw [hb] at e; exact rf_no t e
theorem own_ins {F R H : Hp} {a C dx : Addr} {fs : List (Str × S)} (c : Cn K m F R H) (h : m a = some (.ins C dx fs)) : ∃ vs, H a = some (.ins C dx vs) ∧ RF K F vs fs := (by
  obtain ⟨_, _, o, ho, rc⟩ := c.own a _ h
  cases o with
  | ins C' dx' vs =>
    obtain ⟨rfl, rfl, pr⟩ := rc
    exact ⟨vs, ho, pr⟩
  | _ => exact rc.elim)
theorem ar_fld (h : AR K to Γ m fun x m1 => ∃ a C dx fs y, x = .r a ∧ m1 a = some (.ins C dx fs) ∧ Cls K C ∧ NoAttr K C f ∧ fs.lookup f = some y ∧ Q y m1) : AR K (tFld K to f) Γ m Q := fun σ F R H Q' g c k =>
  h σ F R H _ g c fun v x F1 m1 H1 e1 c1 r1 q1 => by
    obtain ⟨a, C, dx, fs, y, rfl, hm, hc, hn, hl, q⟩ := q1
    obtain ⟨vs, ho, pr⟩ := own_ins c1 hm
    obtain ⟨u, hu, ru⟩ := rf_lk pr hl
    exact ⟨a, C, dx, vs, u, r1, ho, hc, hn, hu, k u y F1 m1 H1 e1 c1 ru q⟩
theorem ars_fld {D : AD} {tv : TE} (h : AR K tv Γ m fun y m1 => AR K to Γ m1 fun x m2 => ∃ a C dx fs fs', x = .r a ∧ m2 a = some (.ins C dx fs) ∧ Cls K C ∧ NoAttr K C f ∧ fs.length < 1000 ∧ PutR f y fs fs' ∧ D.nx Γ (mset m2 a (.ins C dx fs'))) : ARS K (sFld K to tv f) Γ m D := fun σ F R H D' g c k =>
  h σ F R H _ g c fun v y F1 m1 H1 e1 c1 r1 q1 => q1 σ F1 R H1 _ (rg_mono e1 g) c1 fun u x F2 m2 H2 e2 c2 r2 q2 => by
    obtain ⟨a, C, dx, fs, fs', rfl, hm, hc, hn, hl, hp, q⟩ := q2
    obtain ⟨vs, ho, pr⟩ := own_ins c2 hm
    exact ⟨a, C, dx, vs, r2, ho, hc, hn, by rw [pr_len pr]; exact hl, k.nx σ Γ F2 _ _ (e1.trans e2) (rg_mono (e1.trans e2) g) (cn_set (o := .ins C dx (putF f v vs)) (x := .ins C dx fs') c2 hm ⟨rfl, rfl, rf_put (rs_mono e2 r1) pr hp⟩) q⟩
theorem ex_fld {a C dx : Addr} {fs : List (Str × S)} {y : S} {Z : S → Prop} (hm : m a = some (.ins C dx fs)) (hc : Cls K C) (hn : NoAttr K C f) (hl : fs.lookup f = some y) (q : Z y) : ∃ a' C dx fs y, S.r a = .r a' ∧ m a' = some (.ins C dx fs) ∧ Cls K C ∧ NoAttr K C f ∧ fs.lookup f = some y ∧ Z y := ⟨a, C, dx, fs, y, rfl, hm, hc, hn, hl, q⟩
theorem ex_put {a C dx : Addr} {fs fs' : List (Str × S)} {y : S} {Z : Addr → Addr → Addr → List (Str × S) → Prop} (hm : m a = some (.ins C dx fs)) (hc : Cls K C) (hn : NoAttr K C f) (hl : fs.length < 1000) (hp : PutR f y fs fs') (q : Z a C dx fs') : ∃ a' C dx fs fs', S.r a = .r a' ∧ m a' = some (.ins C dx fs) ∧ Cls K C ∧ NoAttr K C f ∧ fs.length < 1000 ∧ PutR f y fs fs' ∧ Z a' C dx fs' := ⟨a, C, dx, fs, fs', rfl, hm, hc, hn, hl, hp, q⟩
theorem ex_met {a C dx : Addr} {fs : List (Str × S)} {Z : Prop} (hm : m a = some (.ins C dx fs)) (hl : fs.lookup f = none) (q : Z) : ∃ a' dx fs, S.r a = .r a' ∧ m a' = some (.ins C dx fs) ∧ fs.lookup f = none ∧ Z := ⟨a, dx, fs, rfl, hm, hl, q⟩
theorem ar_meth {C : Addr} {n : Nat} {fs : FS} {E : XK} {t : TA} (h : AR K to Γ m fun x m1 => ∃ a dx fl, x = .r a ∧ m1 a = some (.ins C dx fl) ∧ fl.lookup f = none ∧ ARA K t Γ m1 fun xs m2 => LF n fs (x :: xs) m2 Q) : AR K (tMeth C f (toSp K (LF n fs)) [] E to t) Γ m Q := fun σ F R H Q' g c k =>
  h σ F R H _ g c fun v x F1 m1 H1 e1 c1 r1 q1 => by
    obtain ⟨a, dx, fl, rfl, hm, hl, q⟩ := q1
    obtain ⟨vs, ho, pr⟩ := own_ins c1 hm
    refine ⟨a, dx, vs, r1, ho, rf_no pr hl, q σ F1 R H1 _ (rg_mono e1 g) c1 fun us xs F2 m2 H2 e2 c2 r2 q2 => ?_⟩
    show toSp K (LF n fs) (v :: (us ++ [])) H2 Q' E
    rw [List.append_nil]
    exact ⟨F2, R, m2, .r a :: xs, Q, c2, .cons (rs_mono e2 r1) r2, q2, fun v x F' m' H' e c' r q => k v x F' m' H' ((e1.trans e2).trans e) c' r q⟩
theorem ar_make {C : Addr} {n : Nat} {fs : FS} {E : XK} {t : TA} (h : ARA K t Γ m fun xs m1 => ∀ p dx, m1 p = none → LF n fs (.r p :: xs) (mset m1 p (.ins C dx [])) fun x m2 => x = .d .none ∧ Q (.r p) m2) : AR K (tMake C (toSp K (LF n fs)) [] E t) Γ m Q := fun σ F R H Q' g c k =>
  h σ F R H _ g c fun us xs F1 m1 H1 e1 c1 r1 q1 => fun p dx hp hdx ne => by
    show toSp K (LF n fs) (.ref p :: (us ++ [])) _ _ E
    rw [List.append_nil]
    have c2 := cn_newF (o := .own p) c1 hdx
    have hp2 : upd H1 dx (.own p) p = none := by rw [upd_ne (Ne.symm ne)]; exact hp
    have c3 := cn_newO (o := .ins C dx []) (x := .ins C dx []) c2 hp2 ⟨rfl, rfl, .nil⟩
    have e2 := same_new (o := .own p) (cn_fresh c1 hdx).1
    refine ⟨_, R, _, .r p :: xs, _, c3, .cons rfl (rss_mono e2 r1), q1 p dx (cn_fresh c1 hp).2.1, fun v x F' m' H' e c' r q => ?_⟩
    obtain ⟨rfl, q⟩ := q
    cases r
    exact ⟨rfl, k (.ref p) (.r p) F' m' H' ((e1.trans e2).trans e) c' rfl q⟩
/-! owned comprehensions, tuples of owned things, owned lists beside data -/
theorem ar_lcO {wi : TI} {g : TG} {tt : TT} {te : TE} {ws : List Nat} (h : ARI K wi Γ m fun ds G m1 => LCD K g tt te ws Γ (fun x m' => ∃ acc : List PyData, x = .d (.list acc) ∧ ∀ p, m' p = none → Q (.r p) (mset m' p (.lst (acc.map S.d)))) ds G m1) : AR K (tOwn (tLc wi g tt te ws)) Γ m Q := (by
  refine ar_lc fun σ F R H R' gg c k => h σ F R H R' gg c fun J ds G F' m' H' e c' y gm hh => k J ds G F' m' H' e c' y gm ?_
  obtain ⟨hl, I, h0, hs, hd⟩ := hh
  refine ⟨hl, fun i acc m' => ∃ as : List PyData, acc = as.map S.d ∧ I i as m', ⟨[], rfl, h0⟩, ?_, ?_⟩
  · rintro i x acc m' hx ⟨as, rfl, hi⟩
    obtain ⟨g1, hb⟩ := hs i x as m' hx hi
    refine ⟨g1, fun v σ F R H Q' r g c k => hb v σ F R H Q' r g c fun σ' Γ' F' m' H' w e g' c' q => k σ' Γ' F' m' H' w e g' c' (art_mono q fun b m3 hq => ?_)⟩
    cases b with
    | true => exact ar_mono (show AR K te Γ' m3 _ from hq) fun y m4 ⟨d, ey, hj⟩ => ⟨as ++ [d], by rw [ey, List.map_append]; rfl, hj⟩
    | false => exact ⟨as, rfl, hq⟩
  · rintro acc m' ⟨as, rfl, hi⟩ hl
    obtain ⟨g1, hq⟩ := hd as m' hi (by simpa using hl)
    refine ⟨g1, fun p hp => ?_⟩
    obtain ⟨as2, e, q⟩ := hq
    cases e
    exact q p hp)
theorem ar_tupO {t : TA} (h : ARA K t Γ m fun xs m1 => xs.length ≤ 1000000 ∧ ∀ p, m1 p = none → Q (.r p) (mset m1 p (.tup xs))) : AR K (tTup t) Γ m Q := fun σ F R H Q' g c k =>
  h σ F R H _ g c fun vs xs F1 m1 H1 e1 c1 r1 q1 => ⟨by rw [pr_len r1]; exact sz_ok q1.1, fun p hp => k _ (.r p) F1 _ _ e1 (cn_newO (o := .tup vs) (x := .tup xs) c1 hp r1) rfl (q1.2 p (cn_fresh c1 hp).2.1)⟩
theorem ar_tupOO {t : TA} (h : ARA K t Γ m fun xs m1 => xs.length ≤ 1000000 ∧ ∀ p, m1 p = none → Q (.r p) (mset m1 p (.tup xs))) : AR K (tOwn (tTup t)) Γ m Q := ar_tupO h
theorem own_tup {F R H : Hp} {a : Addr} {xs : List S} (c : Cn K m F R H) (h : m a = some (.tup xs)) : ∃ vs, H a = some (.tup vs) ∧ RSs K F vs xs := (by
  obtain ⟨_, _, o, ho, rc⟩ := c.own a _ h
  cases o with
  | tup vs => exact ⟨vs, ho, rc⟩
  | _ => exact rc.elim)
theorem arg_tupO {n : Nat} {gs : TGs} {a : Addr} {xs : List S} {Q : Sl → Mem → Prop} (hm : m a = some (.tup xs)) (hn : xs.length = n) (h : ARGs K gs xs Γ m Q) : ARG K (gTup K n gs) (.r a) Γ m Q := fun v σ F R H Q' r g c k => by
  obtain rfl : v = .ref a := r
  obtain ⟨vs, hv, rs⟩ := own_tup c hm
  exact ⟨a, vs, rfl, .inl (.inl hv), by rw [pr_len rs]; exact hn, h vs σ F R H Q' rs g c k⟩
theorem eq_lO {a : Addr} {ds : List PyData} {e : PyData} (hm : m a = some (.lst (ds.map S.d))) (h1 : SeqAt.shaped (.list ds) = true) (h2 : SeqAt.shaped e = true) (q : Q (.d (.bool (PyData.eqv e (.list ds)))) m) : LO K (rEQ K) (.d e) (.r a) m Q := lo_r fun v u F R H Q' ra rb c k => by
  obtain rfl : u = .ref a := rb
  exact ⟨e, _, dq_dp (sh_cl h2) (dp_mono (cn_sub c) ra), own_dp hm h1 c, h2, h1, k _ (.d (.bool _)) F m H (Same.refl F) c (Dq.bl _) q⟩
/-- a list of lists of ints, handed in as data or owned -/
def LstOf (m : Mem) (x : S) (ss : List (List Int)) : Prop := x = .d (dSets ss) ∨ ∃ a, x = .r a ∧ m a = some (.lst (ss.map fun s => S.d (dI s)))
theorem eq_lstOf {x : S} {ss : List (List Int)} (h : LstOf m x ss) (q : Q (.d (.bool true)) m) : LO K (rEQ K) (.d (dSets ss)) x m Q := (by
  rcases h with rfl | ⟨a, rfl, hm⟩
  · exact eq_self sh_dSets q
  · exact eq_lO (ds := ss.map dI) (by rw [dmap]; exact hm) (sh_ok sh_dSets) (sh_ok sh_dSets) (by rw [eqv_sh (sh_dSets (ss := ss))]; exact q))
/-- an assignment whose value is to be owned -/
def tOwnS (t : TS) : TS := t
theorem ps_own {X : Cx} {st : Stmt} {t : TS} (h : PS X st t) : PS X st (tOwnS t) := h
theorem ars_asgO {te : TE} {g : TG} {D : AD} (h : AR K (tOwn te) Γ m fun x m1 => ARG K g x Γ m1 D.nx) : ARS K (tOwnS (tAsg te g)) Γ m D := ars_asg h
/-- a chain of two comparisons of any kind -/
theorem ar_chainG {r r' : R2} {ta tb tc : TE} (h : AR K ta Γ m fun x m1 => AR K tb Γ m1 fun y m2 => LO K r x y m2 fun z m3 => ∃ b, z = .d (.bool b) ∧ if b = true then AR K tc Γ m3 fun w m4 => LO K r' y w m4 Q else Q (.d (.bool false)) m3) : AR K (tChain r r' ta tb tc) Γ m Q := fun σ F R H Q' g c k =>
  h σ F R H _ g c fun v x F1 m1 H1 e1 c1 r1 q1 => q1 σ F1 R H1 _ (rg_mono e1 g) c1 fun u y F2 m2 H2 e2 c2 r2 q2 => q2 v u F2 R H2 _ (rs_mono e2 r1) r2 c2 fun w z F3 m3 H3 e3 c3 r3 q3 => by
    obtain ⟨b, rfl, q⟩ := q3
    cases r3
    refine ⟨b, rfl, ?_⟩
    by_cases hb : b = true
    · rw [if_pos hb] at q ⊢
      exact q σ F3 R H3 _ (rg_mono ((e1.trans e2).trans e3) g) c3 fun w' z' F4 m4 H4 e4 c4 r4 q4 => q4 u w' F4 R H4 Q' (rs_mono (e3.trans e4) r2) r4 c4 fun a b F5 m5 H5 e5 c5 r5 q5 => k a b F5 m5 H5 ((((e1.trans e2).trans e3).trans e4).trans e5) c5 r5 q5
    · rw [if_neg hb] at q ⊢
      exact k _ (.d (.bool false)) F3 m3 H3 ((e1.trans e2).trans e3) c3 (Dq.bl _) q
end
end DL

namespace DL
open PySem PySem.Spec PyProof.Rows L2
section
variable {K : PySem.W.Frag} {Γ : Sl} {m : Mem} {Q : S → Mem → Prop} {te : TE}
theorem dqa_rev {F : Hp} {vs : List V} {ds : List PyData} (h : DqAll K F vs ds) : DqAll K F vs.reverse ds.reverse :=
  rss_dpa (by rw [List.map_reverse]; exact pr_rev (dpa_rss h))
theorem ar_revL (h : AR K te Γ m fun x m1 => ∃ ds, x = .d (.list ds) ∧ Q (.d (.list ds.reverse)) m1) : AR K (tRevL K te) Γ m Q := fun σ F R H Q' g c k =>
  h σ F R H _ g c fun v x F1 m1 H1 e1 c1 r1 q1 => by
    obtain ⟨ds, rfl, q⟩ := q1
    obtain ⟨p, vs, rfl, h1, h2⟩ := dp_list r1
    exact ⟨p, vs, rfl, (cn_sub c1).seq h1, fun l hl => new_D c1 hl (dqa_rev h2) (fun w z F3 m3 H3 e3 c3 r3 q3 => k w z F3 m3 H3 (e1.trans e3) c3 r3 q3) q⟩
theorem pe_revLK {X : Cx} {e : Expr} {te : TE} {k : Nat} {p1 p2 p3 pos : Pos} (h : X.K = K) (he : PE X e te) : PE X (.Subscript e (.Slice none none (some (.UnaryOp .USub (.Constant (.int 1) k p1) p2)) p3) pos) (tRevL K te) := h ▸ pe_revL he
end
theorem bor_nat (x y : Nat) : Builtin.bitOr (x : Int) (y : Int) = ((x ||| y : Nat) : Int) := (by
  rw [L2.bitOr_nn (Int.natCast_nonneg x) (Int.natCast_nonneg y), Int.toNat_natCast, Int.toNat_natCast])
/-! ### set(list of ints): what comes of it -/
section
variable {P : Program} {w : World} {A : Around} {E : Value → Shared → Prop} {s : Shared}
abbrev obS (w : World) : Obj := { cls := .type "set", dict := none, data := .set #[] 0 (.fresh 0 0 (!w.params.followText "set-order")) }
set_option maxHeartbeats 4000000 in
theorem set_of_list {l : Addr} {items : Array Value} (ns : List Int) {Q : Value → Shared → Prop} (hh : A.handled = none) (hl : s.heap.IsList l items) (hit : IntsAre items.toList ns) (hb : ns.length + 1 < scanBound)
    (fin : ∀ (hp : Heap) (tk c : Nat), SetR w hp s.heap.objs.size (fun j => decide (j ∈ ns)) c → c ≤ ns.length → (∀ b o, s.heap.get? b = some o → hp.get? b = some o) → Q (.ref s.heap.objs.size) { s with heap := hp, toks := tk }) :
    wpAny (model P w) A (call (.type "set") [.ref l]) Q E s := by
  have hisz : items.size = ns.length := by rw [← Array.length_toList]; exact IntsAre.length hit
  obtain ⟨c, tl, hmro⟩ := F.called_set.mro
  have hmade := F.called_set.made
  have hsub := F.called_set.sub
  refine wpAny_call (codeAny_of_tree ?_)
  show wpAny _ _ (callAny (.type "set") _) _ _ _
  refine wpAny_pure ⟨Code.quiet_builtin _ (by decide +kernel), codeAny_builtin F.entry_type_call ?_⟩
  rw [Around.under_plain (weight_type_call_type "set" [.ref l] []) rfl]
  have h1 := F.called_set.notType
  have h2 := F.called_set.canCreate
  have hct := F.typeCall_set_1 (.ref l)
  repeat (any_goals (first | assumption | wp_step))
  have hS : (s.heap.push (obS w)).get? s.heap.objs.size = some (obS w) := Heap.get?_push_size _ rfl
  refine codeAny_mono (code_set_led1 (.ref l) (E := E) (Q₁ := fun ob t => ob = .ref s.heap.objs.size ∧ t = { s with heap := s.heap.push (obS w) }) ⟨rfl, rfl⟩) fun r t ht => ?_
  rcases r with e | fl
  · exact ht
  cases fl with
  | ret ob =>
    obtain ⟨rfl, rfl⟩ := ht
    have hT : Shared.TypeIs { s with heap := s.heap.push (obS w) } (.ref s.heap.objs.size) "set" := ⟨_, hS, rfl⟩
    have hli := F.called_set.init.lookup
    have hbi := F.called_set.init.bind (.ref s.heap.objs.size)
    repeat (any_goals (first | assumption | wp_step))
    refine codeAny_mono (codeAny_call_builtin (R := wants (fun r t => r = .none ∧ ∃ hp tk c, t = { s with heap := hp, toks := tk } ∧ SetR w hp s.heap.objs.size (fun j => decide (j ∈ ns)) c ∧ c ≤ ns.length ∧ (∀ b o, s.heap.get? b = some o → hp.get? b = some o)) E)
      F.called_set.init.plain F.entry_set_init (check_set_init_1 hT ?_)) fun r2 t2 ht2 => ?_
    · obtain ⟨ol, hol, hcl, nl, hdl⟩ := hl
      obtain ⟨ocls, odict, odata, oslots⟩ := ol
      simp only at hcl hdl
      subst hcl; subst hdl
      have hol2 : (s.heap.push (obS w)).get? l = some ⟨.type "list", odict, .seq items nl, oslots⟩ := Heap.get?_push_of_some _ hol
      have hl1 : (s.heap.push (obS w)).IsList l items := ⟨_, hol2, rfl, nl, rfl⟩
      have w1 := F.sub_list_set
      have w2 := F.sub_list_frozenset
      have w3 : (Value.type "list" == Value.type "dict") = false := by decide
      unfold Builtin.«set.__init__» noKeywords Builtin.Frozenset.updateFrom
      generalize hPI : pyIter = PI
      wp_walk
      subst hPI
      refine wpAny_pyIter_list hl1 ?_
      refine wpAny_bind (wpAny_runValue ?_)
      have hlS : l < s.heap.objs.size := Heap.lt_size hol
      have hh3 : A.in1.in1.in1.handled = none := by simp [hh]
      have hneI : l ≠ (s.heap.push (obS w)).objs.size := by rw [Heap.size_push]; exact Nat.ne_of_lt (Nat.lt_succ_of_lt hlS)
      have hSf : s.heap.objs.size ∉ [(s.heap.push (obS w)).objs.size, l] := by
        rw [Heap.size_push]
        simp only [List.mem_cons, List.not_mem_nil, or_false, not_or]
        exact And.intro (Nat.ne_of_lt (Nat.lt_succ_self _)) (Nat.ne_of_gt hlS)
      have hval : ∀ (i : Nat) (v : Value), items[i]? = some v → ∃ k t, ns[i]? = some k ∧ v = .int k t := fun i v hv => by
        have hi : i < ns.length := by rw [← hisz]; exact (Array.getElem?_eq_some_iff.mp hv).1
        obtain ⟨t, e⟩ := PyProof.Rows.IntsAre.int_at hit i v (by rw [Array.getElem?_toList]; exact hv)
        exact ⟨ns[i], t, List.getElem?_eq_getElem hi, by rw [e, List.getD_eq_getElem?_getD, List.getElem?_eq_getElem hi] <;> rfl⟩
      refine set_update_ints ((Walks.list hh3 _ l hneI items).toS) s.heap.objs.size hSf ns hisz hb hval (items.size - 0) 0 _ (by omega) (Nat.zero_le _) ⟨⟨_, Heap.get?_push_size _ rfl, rfl, rfl⟩, (hl1.push _)⟩ ⟨0, Nat.le_refl 0, setR_new_at (Heap.get?_push_of_some _ hS)⟩ ?_
      intro t3 c3 hm hc3 hS3
      obtain ⟨hp, g2, d2, tk2, os2⟩ := t3
      have eg : g2 = s.gens := hm.gens
      have ed : d2 = s.drawn := hm.drawn
      have eo : os2 = s.os := hm.os
      subst eg ed eo
      show wpAny _ _ _ _ _ _
      refine wpAny_pure ?_
      show wpAny _ _ (ret Value.none) _ _ _
      refine wpAny_pure ⟨rfl, hp, tk2, c3, rfl, hS3, by rw [← hisz]; exact hc3, fun b o e => ?_⟩
      have hb0 : b < s.heap.objs.size := Heap.lt_size e
      refine hm.heap b o ?_ (Heap.get?_push_of_some _ (Heap.get?_push_of_some _ e))
      simp only [List.mem_cons, List.not_mem_nil, or_false, not_or]
      exact ⟨Nat.ne_of_lt hb0, by rw [Heap.size_push]; exact Nat.ne_of_lt (Nat.lt_succ_of_lt hb0)⟩
    · rcases r2 with e2 | fl2
      · exact ht2
      cases fl2 with
      | ret r3 =>
        obtain ⟨rfl, hp, tk, c2, rfl, hS2, hc2, hk2⟩ := ht2
        repeat (any_goals (first | assumption | wp_step))
        exact fin _ _ _ hS2 hc2 hk2
      | _ => exact ht2.elim
  | _ => exact ht.elim
theorem set_rising {a : Addr} {S : Int → Bool} {n : Nat} {Q : Value → Shared → Prop} (R : SetR w s.heap a S n) (hh : A.handled = none)
    (fin : ∀ t p (out : List Value) (c : Nat) (ns : List Int), (∀ b o, s.heap.get? b = some o → t.heap.get? b = some o) → t.gens = s.gens → t.os = s.os → s.heap.objs.size ≤ p →
      t.heap.get? p = some (seqObj "list" out.toArray c) → IntsAre out ns → ns.Pairwise (· < ·) → (∀ k, k ∈ ns ↔ S k = true) → ns.length = n → Q (.ref p) t) :
    wpAny (model P w) A (call (.builtin "sorted") [.ref a]) Q E s := by
  obtain ⟨o, es, ep, t, ho, hex, hd, g, nd, hm, hb, hf, hn, hr, hl⟩ := R
  refine Calls.call_function_entry kind_sorted plain_sorted entry_sorted (args_sorted1 _) ?_
  unfold Builtin.«sorted»
  refine wpAny_bind (m := checkCount "sorted" 1 1 _) (wpAny_pure ?_)
  refine wpAny_bind (collect_set (A := A.in1) hh ⟨o, ho, hex.1, hd⟩ hf hb hr hl fun s1 vs k1 hz g1 o1 pm => ?_)
  have hvl : vs.length = n := by rw [pm.length_eq, List.length_map]; exact hn
  have hI : IntsAre vs (vs.map Builtin.Re.reRawOf) := L2.ints_of vs fun v hv => by
    obtain ⟨e, he, rfl⟩ := List.mem_map.mp (pm.mem_iff.mp hv)
    obtain ⟨k, tk, h1, _⟩ := g e he
    exact ⟨k, tk, h1⟩
  have pk : (vs.map Builtin.Re.reRawOf).Perm (es.toList.map keyOf) := by
    have q := pm.map Builtin.Re.reRawOf
    rwa [List.map_map] at q
  have hlen : vs.length ≤ sizeLine := by rw [hvl, sizeLine_eq, ← hn]; exact Nat.le_trans (Nat.le_of_lt hb) (by decide)
  refine wpAny_bind (wpAny_newList ?_ hlen)
  have hoL : (s1.heap.push (seqObj "list" vs.toArray 0)).get? s1.heap.objs.size = some (seqObj "list" vs.toArray 0) := Heap.get?_push_size _ rfl
  refine wpAny_bind (wpAny_holding (wpAny_call_entry slot_list_sort ⟨_, hoL, rfl⟩ entry_list_sort
    (SrtO.list_sort_ord SrtO.swo_int hoL hlen (fun h2 => SrtO.ints_sortable hI h2) fun out h1 h2 => ⟨_, rfl, ?_⟩) (args_list_sort _)))
  obtain ⟨i1, i2, i3⟩ := SrtO.ints_out hI h1 h2
  obtain ⟨c, hc⟩ := sortedHeap_at (vs := vs) (out := out.toArray) hoL
  have pn : (out.map SrtO.iv).Perm (es.toList.map keyOf) := i2.trans pk
  refine wpAny_pure ⟨_, rfl, fin _ s1.heap.objs.size out c _ (fun b u e => ?_) g1 o1 hz hc i1 (lt_of_le_nodup _ i3 (pn.nodup_iff.mpr nd)) (fun k => by rw [pn.mem_iff, ← hm k]) ?_⟩
  · have hlt := Heap.lt_size (k1 b u e)
    show (sortedHeap (s1.heap.push (seqObj "list" vs.toArray 0)) s1.heap.objs.size vs out.toArray).get? b = some u
    rw [sortedHeap_old (Nat.ne_of_lt hlt) (by rw [size_push']; exact Nat.lt_succ_of_lt hlt)]
    exact Heap.get?_push_of_some _ (k1 b u e)
  · rw [pn.length_eq, List.length_map]; exact hn
end
/-! ### sorted(set(xs)), len(set(xs)) of ints -/
def tSortSet (K : PySem.W.Frag) (ta : TE) : TE := fun σ H Q => ta σ H fun x H1 => ∃ (l : Addr) (ns : List Int), x = .ref l ∧ SqL K H1 l (ns.map V.int) ∧ ns.length ≤ 4000 ∧ ∀ (zs : List Int) (p : Addr), zs.Pairwise (· < ·) → (∀ k, k ∈ zs ↔ k ∈ ns) → H1 p = none → Q (.ref p) (upd H1 p (.lst (zs.map V.int)))
theorem pe_sortSet {X : Cx} {a : Expr} {ta : TE} {p p2 q pos : Pos} (hg : Gl X "sorted") (hm : X.mg "sorted" = none) (hg2 : Gl X "set") (hm2 : X.mg "set" = none) (ha : PE X a ta) (hc : X.calm = true)
    (na : starEach [a] X.env = (false, eval a X.env) :: starEach [] X.env := by rfl) : PE X (.Call (.Name "sorted" p) [.Call (.Name "set" p2) [a] [] q] [] pos) (tSortSet X.K ta) := by
  refine ⟨fun pins s σ H Q I h => ?_⟩
  refine Call_ (ld_blt I hg hm boot_sorted ?_)
  refine PyProof.Rows.callWith_builtin1 (PyProof.Rows.args_cons ?_ rfl) rfl rfl
  refine Call_ (ld_blt I hg2 hm2 boot_set ?_)
  refine PyProof.Rows.callWith_type1 (PyProof.Rows.args_cons (thn (ha.run pins s σ H _ I h) fun v s1 ⟨x, H1, I1, r1, q1⟩ => PyProof.Rows.args_nil ?_) na) na rfl
  obtain ⟨l, ns, rfl, hq, hl, q1⟩ := q1
  cases r1
  obtain ⟨its, r, pl, hz⟩ := I1.list hq
  refine set_of_list ns (I1.ok.hd hc) pl.isList r.ints (by unfold scanBound; omega) fun h2 tk c hS hcl hk => ?_
  refine PyProof.Rows.args_nil ?_
  have I2 : Inv X pins σ H1 { s1 with heap := h2, toks := tk } := I1.kept fun b o e => hk b o e
  refine set_rising (s := { s1 with heap := h2, toks := tk }) hS (I2.ok.hd hc) fun t p out c2 zs k g o hp hg2 hi hs hm hln => ?_
  have hlen : (zs.map V.int).length ≤ sizeLine := by rw [List.length_map, hln, sizeLine_eq]; omega
  have hn : H1 p = none := I2.hok.fresh hp
  have J : Inv X pins σ (upd H1 p (.lst (zs.map V.int))) { { s1 with heap := h2, toks := tk } with heap := t.heap, gens := t.gens, drawn := t.drawn, toks := t.toks } :=
    I2.call (ch := []) (Un.laid k hp hn) (I2.hok.laid k hp ⟨hlen, out, c2, vals_of_ints hi, hg2⟩) (by rw [g]; exact I2.bare) (fun _ z => nomatch z)
  have e : t = { { s1 with heap := h2, toks := tk } with heap := t.heap, gens := t.gens, drawn := t.drawn, toks := t.toks } := by
    cases t; cases s1; cases o; rfl
  rw [e]
  exact ⟨.ref p, _, J, rfl, q1 zs p hs (fun k => by rw [hm k, decide_eq_true_iff]) hn⟩
section
variable {K : PySem.W.Frag} {Γ : Sl} {m : Mem} {Q : S → Mem → Prop} {te : TE}
theorem pe_sortSetK {X : Cx} {a : Expr} {ta : TE} {p p2 q pos : Pos} (h : X.K = K) (hg : Gl X "sorted") (hm : X.mg "sorted" = none) (hg2 : Gl X "set") (hm2 : X.mg "set" = none) (ha : PE X a ta) (hc : X.calm = true)
    (na : starEach [a] X.env = (false, eval a X.env) :: starEach [] X.env := by rfl) : PE X (.Call (.Name "sorted" p) [.Call (.Name "set" p2) [a] [] q] [] pos) (tSortSet K ta) := h ▸ pe_sortSet hg hm hg2 hm2 ha hc na
theorem ar_sortSet (h : AR K te Γ m fun x m1 => ∃ ns : List Int, x = .d (dI ns) ∧ ns.length ≤ 4000 ∧ ∀ zs : List Int, zs.Pairwise (· < ·) → (∀ k, k ∈ zs ↔ k ∈ ns) → Q (.d (dI zs)) m1) : AR K (tSortSet K te) Γ m Q := fun σ F R H Q' g c k =>
  h σ F R H _ g c fun v x F1 m1 H1 e1 c1 r1 q1 => by
    obtain ⟨ns, rfl, hl, q⟩ := q1
    obtain ⟨p, vs, rfl, h1, h2⟩ := dp_list r1
    obtain rfl := ints_of h2
    exact ⟨p, ns, rfl, (cn_sub c1).seq h1, hl, fun zs l hz1 hz2 hlp => new_D c1 hlp ints_dqa (fun w z F3 m3 H3 e3 c3 r3 q3 => k w z F3 m3 H3 (e1.trans e3) c3 r3 q3) (q zs hz1 hz2)⟩
end
end DL

namespace DL
open PySem PySem.Spec PyProof.Rows L2
/-! ### len(set(xs)) of ints, some of them twice -/
def tLenSetX (K : PySem.W.Frag) (ta : TE) : TE := fun σ H Q => ta σ H fun x H1 => ∃ (l : Addr) (ns : List Int), x = .ref l ∧ SqL K H1 l (ns.map V.int) ∧ ns.length ≤ 4000 ∧ ∀ n : Nat, n ≤ ns.length → (n = ns.length ↔ ns.Nodup) → Q (.int n) H1
theorem dist_len {ks ns : List Int} (h1 : ks.Nodup) (h2 : ∀ k, k ∈ ks ↔ k ∈ ns) (hl : ks.length ≤ ns.length) : ks.length = ns.length ↔ ns.Nodup := (by
  have sub : ∀ {l l' : List Int}, l.Nodup → (∀ x ∈ l, x ∈ l') → l.length ≤ l'.length := by
    intro l
    induction l with
    | nil => intro _ _ _; exact Nat.zero_le _
    | cons a l ih =>
      intro l' hn hs
      obtain ⟨g1, g2⟩ := List.nodup_cons.mp hn
      have ha := hs a List.mem_cons_self
      have h3 := ih (l' := l'.erase a) g2 fun x hx => (List.mem_erase_of_ne (by rintro rfl; exact g1 hx)).mpr (hs x (List.mem_cons_of_mem _ hx))
      rw [List.length_erase_of_mem ha] at h3
      have := List.length_pos_of_mem ha
      rw [List.length_cons]; omega
  constructor
  · intro e
    apply Classical.byContradiction
    intro hd
    have : ∃ a, a ∈ ns ∧ a ∈ ns.erase a := by
      clear e hl h2 h1
      induction ns with
      | nil => exact absurd List.nodup_nil hd
      | cons x r ih =>
        by_cases hx : x ∈ r
        · exact ⟨x, List.mem_cons_self, by rw [List.erase_cons_head]; exact hx⟩
        · have hr : ¬ r.Nodup := fun h => hd (List.nodup_cons.mpr ⟨hx, h⟩)
          obtain ⟨a, h3, h4⟩ := ih hr
          have hne : ¬ (x == a) = true := fun h => hx (by rw [beq_iff_eq.mp h]; exact h3)
          exact ⟨a, List.mem_cons_of_mem _ h3, by rw [List.erase_cons_tail hne]; exact List.mem_cons_of_mem _ h4⟩
    obtain ⟨a, h3, h4⟩ := this
    have h5 := sub h1 (l' := ns.erase a) fun x hx => by
      by_cases hxa : x = a
      · rw [hxa]; exact h4
      · exact (List.mem_erase_of_ne hxa).mpr ((h2 x).mp hx)
    rw [List.length_erase_of_mem h3] at h5
    have := List.length_pos_of_mem h3
    omega
  · intro hn
    have := sub hn (l' := ks) fun x hx => (h2 x).mpr hx
    omega)
theorem pe_lenSetX {X : Cx} {a : Expr} {ta : TE} {p p2 q pos : Pos} (hg : Gl X "len") (hm : X.mg "len" = none) (hg2 : Gl X "set") (hm2 : X.mg "set" = none) (ha : PE X a ta) (hc : X.calm = true)
    (na : starEach [a] X.env = (false, eval a X.env) :: starEach [] X.env := by rfl) : PE X (.Call (.Name "len" p) [.Call (.Name "set" p2) [a] [] q] [] pos) (tLenSetX X.K ta) := by
  refine ⟨fun pins s σ H Q I h => ?_⟩
  refine Call_ (ld_blt I hg hm boot_len ?_)
  refine PyProof.Rows.callWith_builtin1 (PyProof.Rows.args_cons ?_ rfl) rfl rfl
  refine Call_ (ld_blt I hg2 hm2 boot_set ?_)
  refine PyProof.Rows.callWith_type1 (PyProof.Rows.args_cons (thn (ha.run pins s σ H _ I h) fun v s1 ⟨x, H1, I1, r1, q1⟩ => PyProof.Rows.args_nil ?_) na) na rfl
  obtain ⟨l, ns, rfl, hq, hl, q1⟩ := q1
  cases r1
  obtain ⟨its, r, pl, hz⟩ := I1.list hq
  refine set_of_list ns (I1.ok.hd hc) pl.isList r.ints (by unfold scanBound; omega) fun h2 tk c hS hcl hk => ?_
  refine PyProof.Rows.args_nil ?_
  have I2 : Inv X pins σ H1 { s1 with heap := h2, toks := tk } := I1.kept fun b o e => hk b o e
  obtain ⟨o, es, ep, t, ho, hex, hd, g, nd, hmm, hb, hf, hn, hr, hll⟩ := hS
  have hkl : (es.toList.map keyOf).length = c := by rw [List.length_map]; exact hn
  have hdl := dist_len (ns := ns) nd (fun k => (hmm k).symm.trans (by simp)) (by rw [hkl]; exact hcl)
  rw [hkl] at hdl
  exact call_len_set ho hex hd hf (by rw [hn] <;> omega) ⟨.int c, H1, I2.tok _, ⟨_, by rw [hn]⟩, q1 c hcl hdl⟩
section
variable {K : PySem.W.Frag} {Γ : Sl} {m : Mem} {Q : S → Mem → Prop} {te : TE}
theorem pe_lenSetXK {X : Cx} {a : Expr} {ta : TE} {p p2 q pos : Pos} (h : X.K = K) (hg : Gl X "len") (hm : X.mg "len" = none) (hg2 : Gl X "set") (hm2 : X.mg "set" = none) (ha : PE X a ta) (hc : X.calm = true)
    (na : starEach [a] X.env = (false, eval a X.env) :: starEach [] X.env := by rfl) : PE X (.Call (.Name "len" p) [.Call (.Name "set" p2) [a] [] q] [] pos) (tLenSetX K ta) := h ▸ pe_lenSetX hg hm hg2 hm2 ha hc na
theorem ar_lenSet (h : AR K te Γ m fun x m1 => ∃ ns : List Int, x = .d (dI ns) ∧ ns.length ≤ 4000 ∧ ∀ n : Nat, n ≤ ns.length → (n = ns.length ↔ ns.Nodup) → Q (.d (.int (n : Nat))) m1) : AR K (tLenSetX K te) Γ m Q := fun σ F R H Q' g c k =>
  h σ F R H _ g c fun v x F1 m1 H1 e1 c1 r1 q1 => by
    obtain ⟨ns, rfl, hl, q⟩ := q1
    obtain ⟨p, vs, rfl, h1, h2⟩ := dp_list r1
    obtain rfl := ints_of h2
    exact ⟨p, ns, rfl, (cn_sub c1).seq h1, hl, fun n hn1 hn2 => k _ (.d (.int (n : Nat))) F1 m1 H1 e1 c1 (Dq.int _) (q n hn1 hn2)⟩
end
end DL

namespace DL
open PySem PySem.Spec PyProof.Rows L2
section
variable {K : PySem.W.Frag} {Γ : Sl} {m : Mem} {Q : S → Mem → Prop} {te : TE}
/-! ### texts in tuples and lists of texts -/
theorem flat_strs (ns : List Str) : (ns.map V.str).all flatV = true := (by
  rw [List.all_map]; exact List.all_eq_true.mpr fun _ _ => rfl)
theorem inV_strs (i : Str) (ns : List Str) : inV (.str i) (ns.map V.str) = decide (i ∈ ns) := (by
  unfold inV
  rw [List.any_map]
  induction ns with
  | nil => rfl
  | cons n ns ih =>
    rw [List.any_cons, ih]
    show ((n == i) || _) = _
    by_cases e : n = i
    · subst e; simp
    · have e' : ¬ i = n := fun h => e h.symm
      simp [e, e'])
theorem in_tss {i : Str} {ns : List Str} (q : Q (.d (.bool (decide (i ∈ ns)))) m) : LO K (rINS K) (.d (.str i)) (.d (.tuple (ns.map PyData.str))) m Q := lo_r (lo_l fun v u F R H Q' a b c k => by
  obtain ⟨p, vs, rfl, h1, h2⟩ := dp_tup b
  have e := strs_of h2
  subst e
  cases a
  refine ⟨p, _, rfl, .inr (same_sqt (cn_sub c) h1), rfl, flat_strs ns, k _ (.d (.bool (decide (i ∈ ns)))) F m H (Same.refl F) c ?_ q⟩
  show Dq K F (.bl (inV (.str i) (ns.map V.str))) _
  rw [inV_strs]; exact Dq.bl _)
theorem in_ts2 {i a b : Str} (q : Q (.d (.bool (decide (i ∈ [a, b])))) m) : LO K (rINS K) (.d (.str i)) (.d (.tuple [.str a, .str b])) m Q := in_tss (ns := [a, b]) q
theorem in_ts3 {i a b c : Str} (q : Q (.d (.bool (decide (i ∈ [a, b, c])))) m) : LO K (rINS K) (.d (.str i)) (.d (.tuple [.str a, .str b, .str c])) m Q := in_tss (ns := [a, b, c]) q
theorem in_ts4 {i a b c d : Str} (q : Q (.d (.bool (decide (i ∈ [a, b, c, d])))) m) : LO K (rINS K) (.d (.str i)) (.d (.tuple [.str a, .str b, .str c, .str d])) m Q := in_tss (ns := [a, b, c, d]) q
/-! ### a subscript of a list, a tuple, a text or a dict -/
def rDG : R2 := fun x y H Q => ∃ a v, x = .ref a ∧ DGet H a y (some v) ∧ Q v H
theorem ix_dict {X : Cx} (hu : X.A.units + 1 < cLine) : IxR X rDG := (by
  intro value slice pins s σ H x y v u Q I rx ry h hs
  obtain ⟨a, z, rfl, g, q⟩ := h
  obtain rfl : v = Value.ref a := rx
  exact tail_any (dict_typeIs I g) PySem.F.slot_dict_getitem.lookup (d_getItem hu I g ry fun w' s3 I3 rw' => ⟨z, H, I3, rw', q⟩) hs)
def rIXD (K : PySem.W.Frag) : R2 := fun x y H Q => rIX K x y H Q ∨ rDG x y H Q
theorem ix_allDK {X : Cx} (h : X.K = K) (hu : X.A.units + 1 < cLine) : IxR X (rIXD K) := h ▸ ix_all.or (ix_dict hu)
theorem ixd_l {x i : S} (h : LO K (rIX K) x i m Q) : LO K (rIXD K) x i m Q := fun v u F R H Q' a b c k => .inl (h v u F R H Q' a b c k)
theorem ixd_d {kvs : List (Int × PyData)} {i : Int} {x : PyData} (hx : getG kvs i = some x) (q : Q (.d x) m) : LO K (rIXD K) (.d (dDI kvs)) (.d (.int i)) m Q := fun v u F R H Q' a b c k => .inr (by
  obtain ⟨p, vs, rfl, hp, pr⟩ := dict_at a
  cases b
  have z := (pr_get_val (P := RS K F) (k := (Sum.inl i : Key)) pr).1 (S.d x) (by rw [getG_mapS, hx]; rfl)
  obtain ⟨w, h1, h2⟩ := z
  exact ⟨p, w, rfl, by rw [← h1]; exact DGet.k (k := Sum.inl i) (cn_sub c _ _ hp), k w (.d x) F m H (Same.refl F) c h2 q⟩)
/-- an answer, as a dict by things' numbers, a list or a tuple -/
def AnsOf (x : PyData) (ps : List Nat) (A : Nat → Int) : Prop := (∃ kvs, x = dDI kvs ∧ ∀ p ∈ ps, getG kvs (p : Int) = some (.int (A p))) ∨ (∃ vs : List Int, x = dI vs ∧ ∀ p ∈ ps, vs[p]? = some (A p)) ∨ (∃ vs : List Int, x = .tuple (vs.map PyData.int) ∧ ∀ p ∈ ps, vs[p]? = some (A p))
theorem AnsOf.mono {x : PyData} {ps qs : List Nat} {A : Nat → Int} (h : AnsOf x ps A) (hs : ∀ p ∈ qs, p ∈ ps) : AnsOf x qs A := (by
  rcases h with ⟨kvs, e, h⟩ | ⟨vs, e, h⟩ | ⟨vs, e, h⟩
  · exact .inl ⟨kvs, e, fun p hp => h p (hs p hp)⟩
  · exact .inr (.inl ⟨vs, e, fun p hp => h p (hs p hp)⟩)
  · exact .inr (.inr ⟨vs, e, fun p hp => h p (hs p hp)⟩))
theorem ixd_ans {x : PyData} {ps : List Nat} {A : Nat → Int} {p : Nat} (h : AnsOf x ps A) (hp : p ∈ ps) (q : Q (.d (.int (A p))) m) : LO K (rIXD K) (.d x) (.d (.int (p : Nat))) m Q := (by
  rcases h with ⟨kvs, rfl, h⟩ | ⟨vs, rfl, h⟩ | ⟨vs, rfl, h⟩
  · exact ixd_d (h p hp) q
  · exact ixd_l (ix_l (atm (h p hp)) q)
  · exact ixd_l (ix_t (atm (h p hp)) q))
end
/-! ### list(reversed(xs)) -/
section
variable {prog : Program} {w : World} {A : Around} {E : Value → Shared → Prop} {s : Shared}
theorem call_list_rev {it l : Addr} {items : Array Value} {Q : Value → Shared → Prop} (hh : A.handled = none) (hit : s.heap.IsRevIter it l ((items.size : Int) - 1)) (hl : s.heap.IsList l items) (hne : l ≠ it) (hn : items.size ≤ sizeLine)
    (hQ : ∀ (h' : Heap) (tk : Nat) (acc : Array Value) (c : Nat), (∀ b o, b ≠ it → s.heap.get? b = some o → h'.get? b = some o) → ItemsOf (fun i v => items[items.size - 1 - i]? = some v) acc items.size →
      h'.get? s.heap.objs.size = some { cls := .type "list", dict := none, data := .seq acc c, slots := #[] } → Q (.ref s.heap.objs.size) { s with heap := h', toks := tk }) :
    wpAny (model prog w) A (call (.type "list") [.ref it]) Q E s := by
  obtain ⟨oi, hoi, _⟩ := id hit
  obtain ⟨ol, hol, _⟩ := id hl
  have hSi : s.heap.objs.size ≠ it := Nat.ne_of_gt (Heap.lt_size hoi)
  have hSl : s.heap.objs.size ≠ l := Nat.ne_of_gt (Heap.lt_size hol)
  have hSf : s.heap.objs.size ∉ [it, l] := by simp only [List.mem_cons, List.not_mem_nil, or_false, not_or]; exact ⟨hSi, hSl⟩
  refine callType_codes (Q₁ := fun obj s₁ => obj = .ref s.heap.objs.size ∧ s₁ = { s with heap := s.heap.push { cls := .type "list", data := .seq #[] } }) PySem.F.called_list (PySem.F.typeCall_list_1 _) PySem.F.entry_list_init
    (code_list_new _ ⟨rfl, rfl⟩) fun obj s₁ h₁ => ?_
  obtain ⟨rfl, rfl⟩ := h₁
  have hS : (s.heap.push { cls := .type "list", data := .seq #[] }).get? s.heap.objs.size = some { cls := .type "list", data := .seq #[] } := Heap.get?_push_size _ rfl
  refine ⟨⟨_, hS, rfl⟩, PySem.F.args_list_init_2 _ _, ?_⟩
  show wpAny _ A.in1.in1 (do let old ← Builtin.List.listItems (.ref s.heap.objs.size); Builtin.List.listUpdate (.ref s.heap.objs.size) (fun _ => #[]); letGo old.toList.reverse; Builtin.List.listExtendWith (.ref s.heap.objs.size) (.ref it) .none) _ _ _
  refine wpAny_bind ?_
  unfold Builtin.List.listItems
  refine wpAny_bind (wpAny_seqItems hS rfl (wpAny_pure ?_))
  show wpAny _ A.in1.in1 (updateSeq s.heap.objs.size (fun _ => #[]) >>= fun _ => letGo (#[] : Array Value).toList.reverse >>= fun _ => Builtin.List.listExtendWith (.ref s.heap.objs.size) (.ref it) .none) _ _ _
  refine wpAny_bind (wpAny_updateSeq hS rfl ?_)
  have hS2 := Heap.get?_update_self (Obj.mapSeq (fun _ => (#[] : Array Value))) hS rfl
  refine wpAny_bind (wpAny_letGo ?_)
  have up : ∀ b o, s.heap.get? b = some o → ((s.heap.push { cls := .type "list", data := .seq #[] }).update s.heap.objs.size (Obj.mapSeq (fun _ => (#[] : Array Value)))).get? b = some o := fun b o e =>
    (Heap.get?_update_other _ _ (Ne.symm (Nat.ne_of_lt (Heap.lt_size e)))).trans (Heap.get?_push_of_some _ e)
  generalize hg : (s.heap.push { cls := .type "list", data := .seq #[] }).update s.heap.objs.size (Obj.mapSeq (fun _ => (#[] : Array Value))) = g at *
  have hit1 : g.IsRevIter it l ((items.size : Int) - 1) := hit.at fun o e => up _ _ e
  have hl1 : g.IsList l items := hl.at fun o e => up _ _ e
  have hT : ({ s with heap := g } : Shared).TypeIs (.ref it) "list_reverseiterator" := Heap.IsRevIter.typeIs (s := { s with heap := g }) hit1
  have h1 : Builtin.List.listSameRef (.ref s.heap.objs.size) (.ref it) = false := by simp [Builtin.List.listSameRef, hSi]
  have W := (Walks.listRev (prog := prog) (w := w) (A := A.in1.in1) hh it l hne items).toS
  unfold Builtin.List.listExtendWith
  refine wpAny_bind (wpAny_typeOf hT ?_)
  rw [if_neg (by rw [h1]; decide)]
  refine wpAny_bind (wpAny_pyIter_revIter (s := { s with heap := g }) hit1 ?_)
  refine wpAny_bind (wpAny_holding ?_)
  unfold Builtin.List.listLengthHint
  refine wpAny_bind (wpAny_specialOf hT RT.nolen_lri ?_)
  show wpAny _ A.in1.in1 (specialOf (Value.ref it) (Str.ofString "__length_hint__") >>= _) _ _ _
  refine wpAny_bind (wpAny_specialOf hT RT.hint_lri ?_)
  generalize hid : ("list_reverseiterator.__length_hint__" : String) = id0
  wp_delta
  rw [show splitId id0 = some ("list_reverseiterator", "__length_hint__") from by subst hid; decide +kernel]
  subst hid
  refine wpAny_bind (wpAny_isInstance (b := true) hT (by rw [isSubtype_type]; kernel_rfl) ?_)
  refine wpAny_pure ?_
  rw [if_neg (by decide)]
  have e0 : ((items.size : Nat) : Int) - 1 - ((0 : Nat) : Int) = (items.size : Int) - 1 := by omega
  refine wpAny_pure ⟨plainId_quiet PySem.F.plain_extend_loop _, codeAny_extend_loopS W hn _ hSf _ items.size 0 _ _ _ rfl (Nat.zero_le _) ⟨Nat.zero_le _, by rw [e0]; exact hit1, hl1⟩ hS2 (ItemsOf.nil _) fun s' acc' c' hm hS' hacc => ?_⟩
  rw [Moved.eq_with hm]
  refine ⟨rfl, hQ s'.heap s'.toks acc' c' (fun b o hb e => hm.heap b o (fun hmem => ?_) (up b o e)) hacc hS'⟩
  rcases List.mem_cons.mp hmem with e' | hmem
  · exact absurd (Heap.lt_size e) (by rw [e']; exact Nat.lt_irrefl _)
  · exact hb (List.mem_singleton.mp hmem)
end
def tListRev (K : PySem.W.Frag) (te : TE) : TE := fun σ H Q => te σ H fun v H1 => ∃ (a : Addr) (xs : List V), v = .ref a ∧ SqL K H1 a xs ∧ ∀ q, H1 q = none → Q (.ref q) (upd H1 q (.lst xs.reverse))
section
variable {X : Cx}
theorem pe_listRev {e : Expr} {te : TE} {p p2 pos pos2 : Pos} (hc : X.calm = true) (hg : Gl X "list") (hm : X.mg "list" = none) (hg2 : Gl X "reversed") (hm2 : X.mg "reversed" = none) (he : PE X e te)
    (hs : starEach [e] X.env = (false, eval e X.env) :: starEach [] X.env := by rfl)
    (hs2 : starEach [.Call (.Name "reversed" p2) [e] [] pos2] X.env = (false, eval (.Call (.Name "reversed" p2) [e] [] pos2) X.env) :: starEach [] X.env := by rfl) :
    PE X (.Call (.Name "list" p) [.Call (.Name "reversed" p2) [e] [] pos2] [] pos) (tListRev X.K te) := by
  refine ⟨fun pins s σ H Q I h => ?_⟩
  refine Call_ (ld_blt I hg hm boot_list (PyProof.Rows.callWith_type1 (PyProof.Rows.args_cons (Call_ (ld_blt I hg2 hm2 PyProof.Rows.boot_reversed (PyProof.Rows.callWith_type1 (PyProof.Rows.args_cons (thn (he.run pins s σ H _ I h) fun u s1 ⟨v, H1, I1, r1, q1⟩ => PyProof.Rows.args_nil ?_) hs) hs rfl))) hs2) hs2 rfl))
  obtain ⟨a, xs, ev, hq, q⟩ := q1
  subst ev
  obtain rfl : u = Value.ref a := r1
  obtain ⟨its, rv, p', hz⟩ := I1.list hq
  refine call_reversed_list p'.isList (PyProof.Rows.args_nil ?_)
  have k0 : ∀ b o, s1.heap.get? b = some o → (s1.heap.push (revObj a ((its.toArray.size : Int) - 1))).get? b = some o := fun b o e => Heap.get?_push_of_some _ e
  have I2 : Inv X pins σ H1 { s1 with heap := s1.heap.push (revObj a ((its.toArray.size : Int) - 1)) } := I1.kept (t' := s1.toks) k0
  obtain ⟨f0, f1, f2, f3, f4, f5⟩ := I1.fpOk (H' := H1) (b := s1.heap.objs.size) (Nat.le_refl _) (I1.hok.fresh (Nat.le_refl _))
  have hl := p'.isList
  obtain ⟨ol, hol, _⟩ := id hl
  have hne : a ≠ s1.heap.objs.size := Nat.ne_of_lt (Heap.lt_size hol)
  have hn : its.toArray.size ≤ sizeLine := by rw [List.size_toArray, ← rv.length]; exact hz
  refine call_list_rev (s := { s1 with heap := s1.heap.push (revObj a ((its.toArray.size : Int) - 1)) }) (I1.ok.hd hc) ⟨_, Heap.get?_push_size _ rfl, rfl, rfl⟩ (hl.push _) hne hn fun h' tk acc c hk hi hS => ?_
  have hne2 : (s1.heap.push (revObj a ((its.toArray.size : Int) - 1))).objs.size ≠ s1.heap.objs.size := by rw [Heap.size_push]; exact Nat.succ_ne_self _
  have hfr : H1 (s1.heap.push (revObj a ((its.toArray.size : Int) - 1))).objs.size = none := I2.hok.fresh (Nat.le_refl _)
  have I3 : Inv X pins σ (upd H1 (s1.heap.push (revObj a ((its.toArray.size : Int) - 1))).objs.size (.lst xs.reverse)) { s1 with heap := (s1.heap.push (revObj a ((its.toArray.size : Int) - 1))).push { cls := .type "list", dict := none, data := .seq acc c, slots := #[] }, toks := s1.toks } :=
    I2.laid (t' := s1.toks) (fun b o e => Heap.get?_push_of_some _ e) (Nat.le_refl _) (show ObjOk X.prog X.w _ _ _ (.lst xs.reverse) from ⟨by rw [List.length_reverse]; exact hz, acc.toList, c, RT.vals_rev rv hi, by rw [Array.toArray_toList]; exact Heap.get?_push_size _ rfl⟩)
  have J : Inv X pins σ (upd H1 (s1.heap.push (revObj a ((its.toArray.size : Int) - 1))).objs.size (.lst xs.reverse)) { s1 with heap := h', toks := tk } := by
    refine I3.turned (t' := tk) (fun b o hb e => ?_) (by rw [upd_ne hne2.symm]; exact f0) f1 f3 f4 f5
    rcases Heap.get?_push_cases e with ⟨rfl, rfl⟩ | e
    · exact hS
    · exact hk b o hb e
  exact ⟨.ref _, _, J, rfl, q _ hfr⟩
theorem pe_listRevK {K : PySem.W.Frag} {e : Expr} {te : TE} {p p2 pos pos2 : Pos} (h : X.K = K) (hc : X.calm = true) (hg : Gl X "list") (hm : X.mg "list" = none) (hg2 : Gl X "reversed") (hm2 : X.mg "reversed" = none) (he : PE X e te)
    (hs : starEach [e] X.env = (false, eval e X.env) :: starEach [] X.env := by rfl)
    (hs2 : starEach [.Call (.Name "reversed" p2) [e] [] pos2] X.env = (false, eval (.Call (.Name "reversed" p2) [e] [] pos2) X.env) :: starEach [] X.env := by rfl) :
    PE X (.Call (.Name "list" p) [.Call (.Name "reversed" p2) [e] [] pos2] [] pos) (tListRev K te) := h ▸ pe_listRev hc hg hm hg2 hm2 he hs hs2
end
section
variable {K : PySem.W.Frag} {Γ : Sl} {m : Mem} {Q : S → Mem → Prop} {te : TE}
theorem ar_listRev (h : AR K te Γ m fun x m1 => ∃ ds, x = .d (.list ds) ∧ Q (.d (.list ds.reverse)) m1) : AR K (tListRev K te) Γ m Q := fun σ F R H Q' g c k =>
  h σ F R H _ g c fun v x F1 m1 H1 e1 c1 r1 q1 => by
    obtain ⟨ds, rfl, q⟩ := q1
    obtain ⟨p, vs, rfl, h1, h2⟩ := dp_list r1
    exact ⟨p, vs, rfl, (cn_sub c1).seq h1, fun l hl => new_D c1 hl (dqa_rev h2) (fun w z F3 m3 H3 e3 c3 r3 q3 => k w z F3 m3 H3 (e1.trans e3) c3 r3 q3) q⟩
end
end DL

namespace DL
open PySem PySem.Spec PyProof.Rows L2
/-! ### owned lists of owned lists of ints -/
def cLs (s : List Int) : C := .lst (s.map fun n => S.d (.int n))
def cellAt : List Addr → List (List Int) → Addr → Option C
  | a :: as, s :: ss, b => if b = a then some (cLs s) else cellAt as ss b
  | _, _, _ => none
/-- the memory with these lists beside -/
def LLc (m : Mem) (as : List Addr) (ss : List (List Int)) : Mem := fun b => match cellAt as ss b with
  | some c => some c
  | none => m b
structure LLok (m : Mem) (as : List Addr) (ss : List (List Int)) : Prop where
  len : as.length = ss.length
  nd : as.Nodup
  fa : ∀ a ∈ as, m a = none
theorem cellAt_no : ∀ {as : List Addr} {ss : List (List Int)} {b : Addr}, b ∉ as → cellAt as ss b = none
  | [], _, _, _ => by cases ‹List (List Int)› <;> rfl
  | a :: as, [], _, _ => rfl
  | a :: as, s :: ss, b, h => by
    rw [cellAt, if_neg (fun e : b = a => h (by rw [e]; exact List.mem_cons_self))]
    exact cellAt_no fun e => h (List.mem_cons_of_mem _ e)
theorem cellAt_at : ∀ {as : List Addr} {ss : List (List Int)} {i : Nat} {a : Addr} {s : List Int}, as.Nodup → as[i]? = some a → ss[i]? = some s → cellAt as ss a = some (cLs s)
  | [], _, _, _, _, _, h, _ => by simp at h
  | _ :: _, [], _, _, _, _, _, h => by simp at h
  | a :: as, s :: ss, 0, b, t, _, h1, h2 => by
    simp at h1 h2
    rw [cellAt, if_pos h1.symm, h2]
  | a :: as, s :: ss, i + 1, b, t, hn, h1, h2 => by
    have hn2 := List.nodup_cons.mp hn
    have h1 : as[i]? = some b := by simpa using h1
    have hb : b ≠ a := by rintro rfl; exact hn2.1 (List.mem_of_getElem? h1)
    rw [cellAt, if_neg hb]
    exact cellAt_at hn2.2 h1 (by simpa using h2)
theorem cellAt_set : ∀ {as : List Addr} {ss : List (List Int)} {i : Nat} {a : Addr} {s : List Int}, as.Nodup → as.length = ss.length → as[i]? = some a → ∀ b, cellAt as (ss.set i s) b = if b = a then some (cLs s) else cellAt as ss b
  | [], _, _, _, _, _, _, h => by simp at h
  | _ :: _, [], _, _, _, _, h, _ => by simp at h
  | a :: as, t :: ss, 0, c, s, _, _, h => by
    intro b
    simp at h
    subst h
    rw [List.set_cons_zero, cellAt, cellAt]
    split <;> rfl
  | a :: as, t :: ss, i + 1, c, s, hn, hl, h => by
    intro b
    have hn2 := List.nodup_cons.mp hn
    have h : as[i]? = some c := by simpa using h
    have hc : c ≠ a := by rintro rfl; exact hn2.1 (List.mem_of_getElem? h)
    rw [List.set_cons_succ, cellAt, cellAt, cellAt_set hn2.2 (by simpa using hl) h b]
    by_cases e : b = a
    · rw [if_pos e, if_pos e, if_neg (fun z => hc (z.symm.trans e))]
    · rw [if_neg e, if_neg e]
theorem cellAt_snoc : ∀ {as : List Addr} {ss : List (List Int)} {a : Addr} {s : List Int}, as.length = ss.length → a ∉ as → ∀ b, cellAt (as ++ [a]) (ss ++ [s]) b = if b = a then some (cLs s) else cellAt as ss b
  | [], [], a, s, _, _ => fun b => by
    show (if b = a then _ else cellAt [] [] b) = _
    rfl
  | [], _ :: _, _, _, h, _ => by simp at h
  | _ :: _, [], _, _, h, _ => by simp at h
  | c :: as, t :: ss, a, s, hl, hn => fun b => by
    rw [List.cons_append, List.cons_append, cellAt, cellAt, cellAt_snoc (by simpa using hl) (fun h => hn (List.mem_cons_of_mem _ h)) b]
    by_cases e : b = c
    · rw [if_pos e, if_pos e, if_neg (fun z => hn (by rw [← z, e]; exact List.mem_cons_self))]
    · rw [if_neg e, if_neg e]
section
variable {m : Mem} {as : List Addr} {ss : List (List Int)}
theorem ll_nil : LLc m [] [] = m := by funext b; rfl
theorem ll_no {b : Addr} (h : b ∉ as) : LLc m as ss b = m b := by unfold LLc; rw [cellAt_no h]
theorem LLok.no (h : LLok m as ss) {b : Addr} {c : C} (hm : m b = some c) : b ∉ as := fun e => by have := h.fa b e; rw [hm] at this; cases this
theorem LLok.at_ (h : LLok m as ss) {i : Nat} {s : List Int} (hs : ss[i]? = some s) : ∃ a, as[i]? = some a ∧ LLc m as ss a = some (cLs s) := (by
  have hi : i < as.length := by rw [h.len]; exact (List.getElem?_eq_some_iff.mp hs).1
  refine ⟨as[i], List.getElem?_eq_getElem hi, ?_⟩
  unfold LLc
  rw [cellAt_at h.nd (List.getElem?_eq_getElem hi) hs])
theorem LLok.set_ (h : LLok m as ss) {i : Nat} {a : Addr} {s : List Int} (ha : as[i]? = some a) : mset (LLc m as ss) a (cLs s) = LLc m as (ss.set i s) := (by
  funext b
  unfold mset LLc
  rw [cellAt_set h.nd h.len ha b]
  split <;> rfl)
theorem LLok.sets (h : LLok m as ss) {i : Nat} {s : List Int} : LLok m as (ss.set i s) := ⟨by rw [List.length_set]; exact h.len, h.nd, h.fa⟩
theorem ll_out {q : Addr} {c : C} (hq : q ∉ as) : mset (LLc m as ss) q c = LLc (mset m q c) as ss := (by
  funext b
  unfold mset LLc
  by_cases e : b = q
  · subst e; rw [if_pos rfl, cellAt_no hq]; simp
  · rw [if_neg e]
    cases cellAt as ss b with
    | none => simp [e]
    | some x => rfl)
theorem LLok.out (h : LLok m as ss) {q : Addr} {c : C} (hq : q ∉ as) : LLok (mset m q c) as ss := ⟨h.len, h.nd, fun a ha => by rw [mset_ne (fun e : a = q => hq (by rw [← e]; exact ha))]; exact h.fa a ha⟩
theorem LLok.snoc (h : LLok m as ss) {a : Addr} {s : List Int} (ha : LLc m as ss a = none) : LLok m (as ++ [a]) (ss ++ [s]) ∧ mset (LLc m as ss) a (cLs s) = LLc m (as ++ [a]) (ss ++ [s]) := (by
  have hna : a ∉ as := by
    intro e
    obtain ⟨i, hi, e2⟩ := List.getElem_of_mem e
    obtain ⟨b, hb, hc⟩ := h.at_ (List.getElem?_eq_getElem (show i < ss.length by rw [← h.len]; exact hi))
    rw [List.getElem?_eq_getElem hi, e2] at hb
    cases hb
    rw [hc] at ha; cases ha
  have hma : m a = none := by rw [← ll_no (m := m) (ss := ss) hna]; exact ha
  refine ⟨⟨by simp [h.len], ?_, fun b hb => ?_⟩, ?_⟩
  · refine List.nodup_append.mpr ⟨h.nd, by simp, fun x hx y hy => ?_⟩
    rw [List.mem_singleton.mp hy]; rintro rfl; exact hna hx
  · rcases List.mem_append.mp hb with hb | hb
    · exact h.fa b hb
    · rw [List.mem_singleton.mp hb]; exact hma
  · funext b
    unfold mset LLc
    rw [cellAt_snoc h.len hna b]
    split <;> rfl)
theorem LLok.le (h : LLok m as ss) : Le m (LLc m as ss) := fun b => by
  by_cases e : b ∈ as
  · exact .inr (h.fa b e)
  · exact .inl (ll_no e).symm
theorem ll_swap {a p : Addr} {c l : C} (h : a ≠ p) (ha : a ∉ as) : mset (mset (LLc m as ss) p l) a c = mset (LLc (mset m a c) as ss) p l := by rw [mset_comm h.symm, ll_out ha]
theorem rp_cls {m m' : Mem} {a : Addr} {s : List Int} (hm : m a = some (cLs s)) (h : m' a = none) : Rp m m' (.r a) (dI s) := .lst (xs := s.map fun n => S.d (.int n)) hm h (by rw [← dmap]; exact rp_ds)
theorem pr_idx {α β : Type} {P : α → β → Prop} : ∀ {xs : List α} {ys : List β}, xs.length = ys.length → (∀ (i : Nat) (x : α) (y : β), xs[i]? = some x → ys[i]? = some y → P x y) → Paired P xs ys
  | [], [], _, _ => .nil
  | [], _ :: _, h, _ => by simp at h
  | _ :: _, [], h, _ => by simp at h
  | x :: xs, y :: ys, h, k => .cons (k 0 x y rfl rfl) (pr_idx (by simpa using h) fun i a b ha hb => k (i + 1) a b (by simpa using ha) (by simpa using hb))
/-- the list at p, its lists within, as data -/
theorem LLok.rp (h : LLok m as ss) {p : Addr} (hp : LLc m as ss p = none) : Rp (mset (LLc m as ss) p (.lst (as.map S.r))) m (.r p) (dSets ss) := (by
  have hpa : p ∉ as := by
    intro e
    obtain ⟨i, hi, e2⟩ := List.getElem_of_mem e
    obtain ⟨b, hb, hc⟩ := h.at_ (List.getElem?_eq_getElem (show i < ss.length by rw [← h.len]; exact hi))
    rw [List.getElem?_eq_getElem hi, e2] at hb
    cases hb
    rw [hc] at hp; cases hp
  refine .lst mset_same (by rw [← ll_no (m := m) (ss := ss) hpa]; exact hp) (pr_idx (by simp [h.len]) fun i x d hx hd => ?_)
  rw [List.getElem?_map] at hx hd
  cases ha : as[i]? with
  | none => rw [ha] at hx; cases hx
  | some a =>
    rw [ha] at hx; cases hx
    cases hs : ss[i]? with
    | none => rw [hs] at hd; cases hd
    | some s =>
      rw [hs] at hd; cases hd
      have hma : a ∈ as := List.mem_of_getElem? ha
      obtain ⟨b, hb, hc⟩ := h.at_ hs
      rw [ha] at hb; cases hb
      exact rp_cls (by rw [mset_ne (fun e : a = p => hpa (by rw [← e]; exact hma))]; exact hc) (h.fa a hma))
theorem LLok.le2 (h : LLok m as ss) {p : Addr} (hp : LLc m as ss p = none) : Le m (mset (LLc m as ss) p (.lst (as.map S.r))) := Le.trans h.le (Le.set hp)
end
section
variable {K : PySem.W.Frag} {Γ : Sl} {m m1 : Mem} {Q : S → Mem → Prop} {te : TE} {tt : TT} {g : TG} {G : Mem → Prop} {ds : List S} {ws : List Nat}
def tOwnL (t : TE) : TE := t
def tOwnLS (t : TS) : TS := t
theorem pe_ownL {X : Cx} {e : Expr} {te : TE} (h : PE X e te) : PE X e (tOwnL te) := h
theorem ps_ownL {X : Cx} {st : Stmt} {t : TS} (h : PS X st t) : PS X st (tOwnLS t) := h
theorem ars_asgOL {te : TE} {g : TG} {D : AD} (h : AR K (tOwnL te) Γ m fun x m1 => ARG K g x Γ m1 D.nx) : ARS K (tOwnLS (tAsg te g)) Γ m D := ars_asg h
def LCL (K : PySem.W.Frag) (g : TG) (tt : TT) (te : TE) (ws : List Nat) (Γ : Sl) (Q : S → Mem → Prop) (ds : List S) (G : Mem → Prop) (m1 : Mem) : Prop := ds.length ≤ 900000 ∧ ∃ J : Nat → List S → Mem → Prop, J 0 [] m1 ∧
      (∀ i x acc m', ds[i]? = some x → J i acc m' → G m' ∧ ARGw K ws g x (wipeS Γ ws) m' fun Γ2 m2 => ART K tt Γ2 m2 fun b m3 => if b = true then AR K te Γ2 m3 fun y m4 => J (i + 1) (acc ++ [y]) m4 else J (i + 1) acc m3) ∧
      (∀ acc m', J ds.length acc m' → acc.length ≤ ds.length → G m' ∧ ∀ p, m' p = none → Q (.r p) (mset m' p (.lst acc)))
theorem ar_lcLL {wi : TI} (h : ARI K wi Γ m fun ds G m1 => LCL K g tt te ws Γ Q ds G m1) : AR K (tOwnL (tLc wi g tt te ws)) Γ m Q := ar_lc h
/-- a comprehension that makes a list of new lists -/
theorem lc_LL {α : Type} (xs : List α) (F : α → S) (hds : ds = xs.map F) (h : α → List Int) (hn : xs.length ≤ 900000) (hG : ∀ as ss, LLok m1 as ss → G (LLc m1 as ss))
    (hs : ∀ x, x ∈ xs → ∀ as ss, LLok m1 as ss → ARGw K ws g (F x) (wipeS Γ ws) (LLc m1 as ss) fun Γ2 m2 => m2 = LLc m1 as ss ∧ AR K te Γ2 (LLc m1 as ss) fun y m4 => ∃ a, y = .r a ∧ LLc m1 as ss a = none ∧ m4 = mset (LLc m1 as ss) a (cLs (h x)))
    (q : ∀ as p, LLok m1 as (xs.map h) → LLc m1 as (xs.map h) p = none → Q (.r p) (mset (LLc m1 as (xs.map h)) p (.lst (as.map S.r)))) : LCL K g tYes te ws Γ Q ds G m1 := by
  subst hds
  refine ⟨by rw [List.length_map]; exact hn, fun i acc m' => ∃ as, acc = as.map S.r ∧ LLok m1 as ((xs.take i).map h) ∧ m' = LLc m1 as ((xs.take i).map h), ⟨[], rfl, ⟨rfl, List.nodup_nil, fun _ h => (nomatch h)⟩, by rw [List.take_zero, List.map_nil, ll_nil]⟩, fun i x acc m' hx hj => ?_, fun acc m' hj _ => ?_⟩
  · obtain ⟨as, rfl, hok, rfl⟩ := hj
    rw [List.getElem?_map] at hx
    cases e : xs[i]? with
    | none => rw [e] at hx; cases hx
    | some y =>
      rw [e] at hx; cases hx
      refine ⟨hG _ _ hok, fun v σ F' R H Q' rv gg c k => hs y (List.mem_of_getElem? e) as _ hok v σ F' R H Q' rv gg c fun σ' Γ' F2 m' H' w e' g' c' q' => k σ' Γ' F2 m' H' w e' g' c' (art_yes ?_)⟩
      obtain ⟨rfl, q'⟩ := q'
      rw [if_pos rfl]
      refine ar_mono q' fun z m4 ⟨a, ez, ha, em⟩ => ?_
      obtain ⟨h1, h2⟩ := hok.snoc (s := h y) ha
      refine ⟨as ++ [a], by rw [ez, List.map_append]; rfl, ?_, ?_⟩
      · rw [take_snoc e, List.map_append]; exact h1
      · rw [take_snoc e, List.map_append, em]; exact h2
  · obtain ⟨as, rfl, hok, rfl⟩ := hj
    rw [List.length_map, List.take_length] at hok ⊢
    exact ⟨hG _ _ hok, fun p hp => q as p hok hp⟩
theorem rg0S {n : Nat} : rgS 0 n = (List.range n).map fun (k : Nat) => S.d (.int (k : Nat)) := (by
  unfold rgS
  apply List.map_congr_left
  intro k _
  rw [Int.zero_add])
theorem rt_ll {Z : S → Mem → Prop} {as : List Addr} {ss : List (List Int)} {p : Addr} (h : LLok m as ss) (hp : LLc m as ss p = none) (q : Z (.d (dSets ss)) m) : RT Z (.r p) (mset (LLc m as ss) p (.lst (as.map S.r))) :=
  ⟨m, h.le2 hp, .inr ⟨_, h.rp hp, q⟩⟩
/-- list.remove -/
theorem erase_first {ns : List Int} {k : Int} (hk : k ∈ ns) : ∃ j, ns[j]? = some k ∧ (∀ m : Nat, m < j → ns[m]? ≠ some k) ∧ ns.eraseIdx j = ns.erase k := (by
  induction ns with
  | nil => cases hk
  | cons a r ih =>
    by_cases e : a = k
    · exact ⟨0, by simp [e], fun m hm => absurd hm (Nat.not_lt_zero m), by simp [e]⟩
    · obtain ⟨j, h1, h2, h3⟩ := ih ((List.mem_cons.mp hk).resolve_left (fun z => e z.symm))
      refine ⟨j + 1, by simpa using h1, fun m hm => ?_, ?_⟩
      · cases m with
        | zero => simpa using e
        | succ m => simpa using h2 m (by omega)
      · rw [List.eraseIdx_cons_succ, h3, List.erase_cons_tail (by simpa using e)])
theorem rem_o {p : Addr} {ns : List Int} {k : Int} (hm : m p = some (cLs ns)) (hk : k ∈ ns) (q : Q (.d .none) (mset m p (cLs (ns.erase k)))) : LM K rRemI (.r p) [.d (.int k)] m Q := fun v vs F R H Q' a b c kk => by
  cases a
  obtain ⟨u, rfl, ru⟩ := lm1 b
  cases ru
  obtain ⟨j, h1, h2, h3⟩ := erase_first hk
  have hv := own_ints hm c
  refine ⟨p, ns, k, j, rfl, rfl, hv, h1, h2, kk _ (.d .none) F _ _ (Same.refl F) (cn_set (o := .lst ((ns.eraseIdx j).map V.int)) (x := cLs (ns.erase k)) c hm ?_) Dq.non q⟩
  rw [h3]
  have z := dpa_rss (ints_dqa (K := K) (F := F) (ns := ns.erase k))
  rw [List.map_map] at z
  exact z
end
end DL

namespace DL
open PySem PySem.Spec PyProof.Rows L2
theorem at0 {α : Type} {x : α} {xs : List α} : atI (x :: xs) 0 = some x := at_nat (j := 0) rfl
theorem ixN0 {n : Nat} : ixN (n + 1) 0 = some 0 := (by
  unfold ixN
  rw [if_pos (by decide), if_pos (by omega)]; rfl)
theorem ixN_nat {n i : Nat} (h : i < n) : ixN n (i : Int) = some i := (by
  unfold ixN
  rw [if_pos (by omega), if_pos (by omega)]
  congr 1)
section
variable {K : PySem.W.Frag} {Γ : Sl} {m : Mem} {Q : S → Mem → Prop} {te : TE}
theorem set0_o {p : Addr} {x y : S} {r : List S} {Q : Mem → Prop} (hm : m p = some (.lst (y :: r))) (q : Q (mset m p (.lst (x :: r)))) : LSet K rSetL (.r p) (.d (.int 0)) x m Q :=
  set_o hm (j := 0) ixN0 q
theorem setn_o {p : Addr} {x : S} {xs : List S} {i : Nat} {Q : Mem → Prop} (hm : m p = some (.lst xs)) (hi : i < xs.length) (q : Q (mset m p (.lst (xs.set i x)))) : LSet K rSetL (.r p) (.d (.int (i : Nat))) x m Q :=
  set_o hm (ixN_nat hi) q
theorem pop_snoc {p : Addr} {y : S} {xs : List S} (hm : m p = some (.lst (xs ++ [y]))) (q : Q y (mset m p (.lst xs))) : LM K rPop (.r p) [] m Q :=
  pop_o hm (x := y) (by simp) (by rw [List.dropLast_concat]; exact q)
theorem nat_ints {ns : List Nat} : (ns.map fun (k : Nat) => S.d (.int (k : Nat))) = (ns.map fun (k : Nat) => (k : Int)).map fun n => S.d (.int n) := by rw [List.map_map]; rfl
theorem mem_cast {k : Nat} {ns : List Nat} : ((k : Int) ∈ ns.map fun (k : Nat) => (k : Int)) ↔ k ∈ ns := (by
  rw [List.mem_map]
  constructor
  · rintro ⟨j, hj, e⟩
    have : j = k := by omega
    exact this ▸ hj
  · intro h; exact ⟨k, h, rfl⟩)
theorem in_no {a : Addr} {ns : List Nat} {k : Nat} (hm : m a = some (.lst (ns.map fun (k : Nat) => S.d (.int (k : Nat))))) (q : Q (.d (.bool (decide (k ∈ ns)))) m) : LO K (rINS K) (.d (.int (k : Nat))) (.r a) m Q :=
  in_io (ns := ns.map fun (k : Nat) => (k : Int)) (by rw [hm, nat_ints]) (by rw [decide_eq_decide.mpr mem_cast]; exact q)
theorem notin_no {a : Addr} {ns : List Nat} {k : Nat} (hm : m a = some (.lst (ns.map fun (k : Nat) => S.d (.int (k : Nat))))) (q : Q (.d (.bool (!decide (k ∈ ns)))) m) : LO K (rNINS K) (.d (.int (k : Nat))) (.r a) m Q :=
  notin_io (ns := ns.map fun (k : Nat) => (k : Int)) (by rw [hm, nat_ints]) (by rw [decide_eq_decide.mpr mem_cast]; exact q)
/-! pairs in lists of pairs -/
theorem dPair_inj {p q : Nat × Int} (h : dPair p = dPair q) : p = q := (by
  simp only [dPair, PyData.tuple.injEq, List.cons.injEq, PyData.int.injEq, and_true] at h
  exact Prod.ext (by omega) h.2)
theorem pairs_any {p : Nat × Int} {ps : List (Nat × Int)} : ((ps.map dPair).any fun z => PyData.eqv z (dPair p)) = decide (p ∈ ps) := (by
  rw [List.any_map, Bool.eq_iff_iff, List.any_eq_true, decide_eq_true_iff]
  constructor
  · rintro ⟨r, hr, e⟩
    have := dPair_inj ((eqv_iff (n := 1) sh_dPair rfl rfl).mp e)
    exact this ▸ hr
  · intro h
    exact ⟨p, h, eqv_sh (n := 1) sh_dPair⟩)
theorem in_pairs {p : Nat × Int} {ps : List (Nat × Int)} (q : Q (.d (.bool (decide (p ∈ ps)))) m) : LO K (rINS K) (.d (dPair p)) (.d (dPairs ps)) m Q :=
  in_d (sh_ok (n := 1) sh_dPair) (sh_ok (n := 2) sh_dPairs) (by rw [pairs_any]; exact q)
theorem notin_pairs {p : Nat × Int} {ps : List (Nat × Int)} (q : Q (.d (.bool (!decide (p ∈ ps)))) m) : LO K (rNINS K) (.d (dPair p)) (.d (dPairs ps)) m Q :=
  notin_d (sh_ok (n := 1) sh_dPair) (sh_ok (n := 2) sh_dPairs) (by rw [pairs_any]; exact q)
theorem notin_tss {i : Str} {ns : List Str} (q : Q (.d (.bool (!decide (i ∈ ns)))) m) : LO K (rNINS K) (.d (.str i)) (.d (.tuple (ns.map PyData.str))) m Q := lo_r (lo_l fun v u F R H Q' a b c k => by
  obtain ⟨p, vs, rfl, h1, h2⟩ := dp_tup b
  have e := strs_of h2
  subst e
  cases a
  refine ⟨p, _, rfl, .inr (same_sqt (cn_sub c) h1), rfl, flat_strs ns, k _ (.d (.bool (!decide (i ∈ ns)))) F m H (Same.refl F) c ?_ q⟩
  show Dq K F (.bl (!inV (.str i) (ns.map V.str))) _
  rw [inV_strs]; exact Dq.bl _)
theorem notin_ts2 {i a b : Str} (q : Q (.d (.bool (!decide (i ∈ [a, b])))) m) : LO K (rNINS K) (.d (.str i)) (.d (.tuple [.str a, .str b])) m Q := notin_tss (ns := [a, b]) q
/-- a new list handed out: owned, or as data -/
def RetL (own : Bool) (Z : S → Mem → Prop) (m : Mem) (ds : List PyData) : Prop := match own with
  | true => ∀ p, m p = none → Z (.r p) (mset m p (.lst (ds.map S.d)))
  | false => Z (.d (.list ds)) m
theorem ret_rt {own : Bool} {Z : S → Mem → Prop} {p : Addr} {ds : List PyData} (hp : m p = none) (q : RetL own Z m ds) : RT Z (.r p) (mset m p (.lst (ds.map S.d))) := (by
  cases own with
  | true => exact rt_id (q p hp)
  | false => exact rt_fz mset_same (Le.set hp) hp q)
end
/-! any list beside the empty one -/
def rNeNil (K : PySem.W.Frag) : R2 := fun x y H Q => ∃ a b xs, x = .ref a ∧ y = .ref b ∧ SqL K H a xs ∧ SqL K H b [] ∧ Q (.bl (!xs.isEmpty)) H
theorem op_neNil {X : Cx} (hu : X.A.units < cLine) : OpR X (compareOp .NotEq) (rNeNil X.K) := (by
  intro pins s σ H x y v u Q I rx ry h
  obtain ⟨a, b, xs, rfl, rfl, h1, h2, q⟩ := h
  cases rx; cases ry
  obtain ⟨its, r, pl, hz⟩ := I.list h1
  obtain ⟨its2, r2, pl2, hz2⟩ := I.list h2
  have hl := r.length
  have hl2 := r2.length
  cases xs with
  | nil =>
    refine SeqAt.RcNeAt.lists (e := fun _ => true) pl.isList pl2.isList (by simp only [List.size_toArray]; omega) hu (fun j h1 _ => ?_) _ _ _ _ ?_
    · simp only [List.size_toArray] at h1
      simp at hl
      omega
    · refine ⟨.bl false, H, I, ?_, q⟩
      have : (List.range its.toArray.size).all (fun _ => true) = true := List.all_eq_true.mpr fun _ _ => rfl
      rw [this]; rfl
  | cons x xs =>
    refine SeqAt.RcNeAt.lists_lengths pl.isList pl2.isList ?_ hu _ _ _ _ ⟨.bl true, H, I, rfl, q⟩
    simp only [List.size_toArray, bne_iff_ne, ne_eq]
    simp at hl hl2
    rw [← hl, ← hl2]
    simp)
theorem op_neNilK {X : Cx} {K : PySem.W.Frag} (h : X.K = K) (hu : X.A.units + 1 < cLine) : OpR X (compareOp .NotEq) (rNeNil K) := h ▸ op_neNil (by omega)
theorem ne_nil_any {K : PySem.W.Frag} {m : Mem} {Q : S → Mem → Prop} {ds : List PyData} (q : Q (.d (.bool (!ds.isEmpty))) m) : LO K (rNeNil K) (.d (.list ds)) (.d (.list [])) m Q := fun v u F R H Q' ra rb c k => by
  obtain ⟨p, vs, rfl, h1, h2⟩ := dp_list ra
  obtain ⟨p', us, rfl, h3, h4⟩ := dp_list rb
  cases h4
  refine ⟨p, p', vs, rfl, rfl, (cn_sub c).seq h1, (cn_sub c).seq h3, k _ (.d (.bool (!ds.isEmpty))) F m H (Same.refl F) c ?_ q⟩
  rw [show vs.isEmpty = ds.isEmpty by cases h2 <;> rfl]
  exact Dq.bl _
/-! isinstance beside two classes; of an owned list -/
theorem call_isiTK {X : Cx} {K : PySem.W.Frag} (h : X.K = K) : CallR X (.builtin "isinstance") (rIsiT K) := h ▸ call_isiT
/-- a slot's built-in type -/
inductive TyIs (m : Mem) : S → String → Prop
  | d (x : PyData) : TyIs m (.d x) (tyD x)
  | o {a : Addr} {xs : List S} : m a = some (.lst xs) → TyIs m (.r a) "list"
  | tup {a : Addr} {xs : List S} : m a = some (.tup xs) → TyIs m (.r a) "tuple"
theorem tyis_tx {K : PySem.W.Frag} {m : Mem} {F R H : Hp} {x : S} {n : String} {v : V} (h : TyIs m x n) (c : Cn K m F R H) (r : RS K F v x) : TyX K H v (.type n) := (by
  cases h with
  | d x => exact dq_ty (cn_sub c) r
  | o hm =>
    obtain rfl : v = .ref _ := r
    obtain ⟨vs, hv, _⟩ := own_lst c hm
    exact .base (.lst hv)
  | tup hm =>
    obtain rfl : v = .ref _ := r
    obtain ⟨vs, hv, _⟩ := own_tup c hm
    exact .base (.tup hv))
theorem isi_any {K : PySem.W.Frag} {m : Mem} {Q : S → Mem → Prop} {x : S} {n c : String} {b : Bool} (ht : TyIs m x n) (hk : kitB n c = some b) (q : Q (.d (.bool b)) m) : LB K (rIsi K) [x, .t c] m Q := fun vs F R H Q' a cn k => by
  cases a with
  | cons a a2 =>
    cases a2 with
    | cons a2 a3 =>
      cases a3
      obtain rfl := a2
      exact ⟨_, _, _, _, b, rfl, .ty c, tyis_tx ht cn a, kit_ty hk, k _ (.d (.bool b)) F m H (Same.refl F) cn (Dq.bl _) q⟩
theorem ar_isi2 {K : PySem.W.Frag} {Γ : Sl} {m : Mem} {Q : S → Mem → Prop} {te : TE} {c1 c2 : String} (h : AR K te Γ m fun x m1 => ∃ n b1 b2, TyIs m1 x n ∧ kitB n c1 = some b1 ∧ kitB n c2 = some b2 ∧ Q (.d (.bool (b1 || b2))) m1) : AR K (tCB (rIsiT K) (tCons te (tCons (tTup (tCons (tC (.ty c1)) (tCons (tC (.ty c2)) tNil))) tNil))) Γ m Q := fun σ F R H Q' g c k =>
  h σ F R H _ g c fun v x F1 m1 H1 e1 cn1 r1 q1 => by
    obtain ⟨n, b1, b2, ht, h1, h2, q⟩ := q1
    refine ⟨by show 2 ≤ sizeLine; rw [sizeLine_eq]; decide, fun p hp => ?_⟩
    have c2' := cn_newF (o := .tup [.ty c1, .ty c2]) cn1 hp
    have e2 := same_new (o := .tup [.ty c1, .ty c2]) (cn_fresh cn1 hp).1
    refine ⟨v, p, [.ty c1, .ty c2], .type n, [.type c1, .type c2], b1 || b2, rfl, upd_same, .cons (.ty c1) (.cons (.ty c2) .nil), ?_, ?_, k _ (.d (.bool (b1 || b2))) _ m1 _ (e1.trans e2) c2' (Dq.bl _) q⟩
    · exact tyis_tx ht c2' (rs_mono e2 r1)
    · show (match PySem.W.kitOne K (.type n) (.type c1) with | some true => some true | some false => PySem.W.kitAny K (.type n) [.type c2] | none => none) = some (b1 || b2)
      rw [kit_ty h1]
      cases b1 with
      | true => rfl
      | false =>
        show (match PySem.W.kitOne K (.type n) (.type c2) with | some true => some true | some false => some false | none => none) = some b2
        rw [kit_ty h2]
        cases b2 <;> rfl
/-! data of bounded depth and size -/
def Sm : Nat → PyData → Prop
  | 0, d => match d with
    | .list _ => False
    | .tuple _ => False
    | .dict _ => False
    | _ => True
  | k + 1, d => match d with
    | .list ds => ds.length ≤ 100000 ∧ ∀ x ∈ ds, Sm k x
    | .tuple ds => ds.length ≤ 100000 ∧ ∀ x ∈ ds, Sm k x
    | .dict _ => False
    | _ => True
theorem sm_mono : ∀ {k j : Nat} {d : PyData}, Sm k d → k ≤ j → Sm j d
  | 0, 0, _, h, _ => h
  | 0, j + 1, d, h, _ => by cases d <;> first | exact h | exact h.elim
  | k + 1, 0, _, _, hj => absurd hj (by omega)
  | k + 1, j + 1, d, h, hj => by
    cases d with
    | list ds => exact ⟨h.1, fun x hx => sm_mono (h.2 x hx) (by omega)⟩
    | tuple ds => exact ⟨h.1, fun x hx => sm_mono (h.2 x hx) (by omega)⟩
    | _ => exact h
theorem sm_dI {ns : List Int} (h : ns.length ≤ 100000) : Sm 1 (dI ns) := ⟨by rw [List.length_map]; exact h, fun x hx => by obtain ⟨n, _, rfl⟩ := List.mem_map.mp hx; exact True.intro⟩
theorem sm_dSets {ss : List (List Int)} (h : ss.length ≤ 100000) (h2 : ∀ s ∈ ss, s.length ≤ 100000) : Sm 2 (dSets ss) := ⟨by rw [List.length_map]; exact h, fun x hx => by obtain ⟨s, hs, rfl⟩ := List.mem_map.mp hx; exact sm_dI (h2 s hs)⟩
theorem sm_map {α : Type} {f : α → PyData} {k : Nat} {xs : List α} (h : xs.length ≤ 100000) (h2 : ∀ x ∈ xs, Sm k (f x)) : Sm (k + 1) (.list (xs.map f)) := ⟨by rw [List.length_map]; exact h, fun x hx => by obtain ⟨s, hs, rfl⟩ := List.mem_map.mp hx; exact h2 s hs⟩
theorem sm_tmap {α : Type} {f : α → PyData} {k : Nat} {xs : List α} (h : xs.length ≤ 100000) (h2 : ∀ x ∈ xs, Sm k (f x)) : Sm (k + 1) (.tuple (xs.map f)) := ⟨by rw [List.length_map]; exact h, fun x hx => by obtain ⟨s, hs, rfl⟩ := List.mem_map.mp hx; exact h2 s hs⟩
end DL

namespace DL
open PySem PySem.Spec PyProof.Rows L2
/-! ### dict(xs) of a list of pairs (int, data) -/
def rDictP (K : PySem.W.Frag) : List V → Hp → VK → Prop := fun xs H Q => ∃ (a : Addr) (ps : List Addr) (kvs : List (Key × V)), xs = [.ref a] ∧ SqL K H a (ps.map V.ref) ∧ Paired (fun p kv => SqT K H p [kV kv.1, kv.2]) ps kvs ∧ ∀ p, H p = none → Q (.ref p) (upd H p (.dK (mergeK [] kvs)))
theorem cr_dictPK {X : Cx} {K : PySem.W.Frag} (hk : X.K = K) (hc : X.calm = true) : CallR X (.type "dict") (rDictP K) := hk ▸ call_dictP hc
theorem mergeK_nd {vs : List (Key × V)} : ∀ {acc : List (Key × V)}, ((acc ++ vs).map (·.1)).Nodup → mergeK acc vs = acc ++ vs := (by
  induction vs with
  | nil => intro acc _; rw [List.append_nil]; rfl
  | cons p r ih =>
    intro acc h
    have e : putK acc p.1 p.2 = acc ++ [p] := by
      unfold putK
      rw [if_neg]
      intro hc
      obtain ⟨q, hq, e⟩ := List.any_eq_true.mp hc
      have e := of_decide_eq_true e
      rw [List.map_append] at h
      exact (List.nodup_append.mp h).2.2 q.1 (List.mem_map.mpr ⟨q, hq, rfl⟩) p.1 (by simp) e
    show mergeK (putK acc p.1 p.2) r = _
    rw [e, ih (by rw [List.append_assoc]; exact h), List.append_assoc]; rfl)
section
variable {K : PySem.W.Frag} {Γ : Sl} {m : Mem} {Q : S → Mem → Prop}
theorem dictp_rows {F H : Hp} (hs : ∀ a o, F a = some o → H a = some o) : ∀ {xs : List V} {kvs : List (Int × PyData)}, DqAll K F xs (kvs.map fun p => .tuple [.int p.1, p.2]) → ∃ (ps : List Addr) (ws : List (Key × V)), xs = ps.map V.ref ∧ Paired (fun p kv => SqT K H p [kV kv.1, kv.2]) ps ws ∧ Paired (fun (p : Key × V) (q : Key × S) => p.1 = q.1 ∧ RS K F p.2 q.2) ws (kvs.map fun p => ((Sum.inl p.1 : Key), S.d p.2)) ∧ ws.map (·.1) = kvs.map fun p => (Sum.inl p.1 : Key)
  | [], [], _ => ⟨[], [], rfl, .nil, .nil, rfl⟩
  | [], _ :: _, h => nomatch h
  | x :: xs, [], h => nomatch h
  | x :: xs, q :: kvs, h => by
    rw [List.map_cons] at h
    cases h with
    | cons h t =>
      obtain ⟨ps, ws, e, h1, h2, h3⟩ := dictp_rows hs t
      obtain ⟨b, ys, rfl, hb, hy⟩ := dp_tupH h
      cases hy with
      | cons hy t2 =>
        cases t2 with
        | cons hz t3 =>
          cases t3
          cases hy
          exact ⟨b :: ps, (Sum.inl q.1, _) :: ws, by rw [e]; rfl, .cons (.inl (.inl (hs _ _ hb))) h1, .cons ⟨rfl, hz⟩ h2, by rw [List.map_cons, h3]; rfl⟩
theorem dictp_is {kvs : List (Int × PyData)} (hn : (kvs.map (·.1)).Nodup) (q : ∀ p, m p = none → Q (.r p) (mset m p (cI (kvs.map fun p => (p.1, S.d p.2))))) : LB K (rDictP K) [.d (.list (kvs.map fun p => .tuple [.int p.1, p.2]))] m Q := fun vs F R H Q' h c k => by
  cases h with
  | cons h d =>
    cases d
    obtain ⟨a, xs, rfl, hF, hx⟩ := dp_listH h
    obtain ⟨ps, ws, rfl, h1, h2, h3⟩ := dictp_rows (cn_sub c) hx
    refine ⟨a, ps, ws, rfl, .inl (.inl (cn_sub c _ _ hF)), h1, fun l hl => k _ (.r l) F _ _ (Same.refl F) (cn_newO (o := .dK (mergeK [] ws)) (x := cI (kvs.map fun p => (p.1, S.d p.2))) c hl ?_) rfl (q l (cn_fresh c hl).2.1)⟩
    rw [mergeK_nd (acc := []) (by
      rw [List.nil_append, h3, show (kvs.map fun p => (Sum.inl p.1 : Key)) = (kvs.map (·.1)).map fun i => (Sum.inl i : Key) by rw [List.map_map]; rfl]
      exact List.Pairwise.map _ (fun a b h e => h (Sum.inl.inj e)) hn), List.nil_append]
    show Paired _ _ _
    rw [List.map_map]
    exact h2
end
end DL

namespace DL
open PySem PySem.Spec PyProof.Rows L2
/-! ### calls that borrow: owned lists handed out as data, and taken back -/
def em : Mem := fun _ => none
def jn (m m' : Mem) : Mem := fun a => match m' a with
  | some c => some c
  | none => m a
/-- data without a list or a dict in it -/
inductive NL : PyData → Prop
  | non : NL .none
  | bl {b : Bool} : NL (.bool b)
  | int {i : Int} : NL (.int i)
  | str {s : Str} : NL (.str s)
  | tup {ds : List PyData} : (∀ d ∈ ds, NL d) → NL (.tuple ds)
inductive NLS : S → Prop
  | d {x : PyData} : NL x → NLS (.d x)
  | r {a : Addr} : NLS (.r a)
def NLM (m : Mem) : Prop := ∀ a c, m a = some c → ∃ xs, c = .lst xs ∧ ∀ x ∈ xs, NLS x
section
variable {K : PySem.W.Frag} {Γ : Sl} {m : Mem} {Q : S → Mem → Prop}
/-- what is frozen now, without what was borrowed -/
def bkF (m m2 : Mem) (F : Hp) : Hp := fun a => if (m a).isSome ∧ m2 a = none then none else F a
mutual
theorem nl_dq {m m2 : Mem} {F : Hp} (hb : ∀ a, (m a).isSome → m2 a = none → ∃ vs, F a = some (.lst vs)) : ∀ {v : V} {d : PyData}, NL d → Dq K F v d → Dq K (bkF m m2 F) v d
  | _, _, _, .non => .non
  | _, _, _, .bl b => .bl b
  | _, _, _, .int i => .int i
  | _, _, _, .str x => .str x
  | _, _, h, .lst _ _ => by cases h
  | _, _, h, .dct _ _ => by cases h
  | _, _, h, .tup (a := a) h1 h2 => by
    cases h with
    | tup hn =>
      refine .tup ?_ (nl_dqa hb hn h2)
      unfold bkF
      rw [if_neg]
      · exact h1
      · rintro ⟨x, y⟩
        obtain ⟨vs, e⟩ := hb a x y
        rw [e] at h1; cases h1
theorem nl_dqa {m m2 : Mem} {F : Hp} (hb : ∀ a, (m a).isSome → m2 a = none → ∃ vs, F a = some (.lst vs)) : ∀ {vs : List V} {ds : List PyData}, (∀ d ∈ ds, NL d) → DqAll K F vs ds → DqAll K (bkF m m2 F) vs ds
  | _, _, _, .nil => .nil
  | _, _, h, .cons h1 h2 => .cons (nl_dq hb (h _ List.mem_cons_self) h1) (nl_dqa hb (fun d hd => h d (List.mem_cons_of_mem _ hd)) h2)
end
theorem nls_rs {m m2 : Mem} {F : Hp} (hb : ∀ a, (m a).isSome → m2 a = none → ∃ vs, F a = some (.lst vs)) {v : V} {x : S} (h : NLS x) (r : RS K F v x) : RS K (bkF m m2 F) v x := (by
  cases h with
  | d h => exact nl_dq hb h r
  | r => exact r)
theorem nls_rss {m m2 : Mem} {F : Hp} (hb : ∀ a, (m a).isSome → m2 a = none → ∃ vs, F a = some (.lst vs)) : ∀ {vs : List V} {xs : List S}, (∀ x ∈ xs, NLS x) → RSs K F vs xs → RSs K (bkF m m2 F) vs xs
  | _, _, _, .nil => .nil
  | _, _, h, .cons h1 h2 => .cons (nls_rs hb (h _ List.mem_cons_self) h1) (nls_rss hb (fun x hx => h x (List.mem_cons_of_mem _ hx)) h2)
theorem rps_rs {m m2 : Mem} {F R H : Hp} (c : Cn K m F R H) : ∀ {vs : List V} {xs : List S} {ds : List PyData}, Paired (Rp m m2) xs ds → RSs K F vs xs → RSs K (frzF m m2 F H) vs (ds.map S.d)
  | _, _, _, .nil, .nil => .nil
  | _, _, _, .cons q qs, .cons h hs => .cons (rp_dp c q h) (rps_rs c qs hs)
/-- a call of borrowed lists -/
theorem ar_callB {fs : FS} {E : XK} {t : TA} (h : ARA K t Γ m fun xs m1 => ∃ (ds : List PyData) (m2 : Mem), Le m2 m1 ∧ (∀ a c, m1 a = some c → m2 a = none → ∃ ys, c = .lst ys) ∧ Paired (Rp m1 m2) xs ds ∧ fs (ds.map S.d) em fun x m' => NLS x ∧ NLM m' ∧ ((∀ a c, m' a = some c → m1 a = none) → Q x (jn m1 m'))) : AR K (tCall (toSp K fs) [] E t) Γ m Q := fun σ F R H Q' g c k =>
  h σ F R H _ g c fun vs xs F1 m1 H1 e1 c1 r1 ⟨ds, m2, l, hk, hp, q1⟩ => by
    show toSp K fs (vs ++ []) H1 Q' E
    rw [List.append_nil]
    have cz := cn_frz c1 l
    let R2 : Hp := fun a => if (m2 a).isSome then H1 a else R a
    have c2 : Cn K em (frzF m1 m2 F1 H1) R2 H1 := by
      refine ⟨fun a x e => (by cases (show (none : Option C) = some x from e)), fun a o e => ?_, fun a _ e2 => ?_⟩
      · show frzF m1 m2 F1 H1 a = none ∧ H1 a = some o
        have e : (if (m2 a).isSome then H1 a else R a) = some o := e
        split at e
        · rename_i hs
          obtain ⟨x, hx⟩ := Option.isSome_iff_exists.mp hs
          exact ⟨(cz.own a x hx).1, e⟩
        · exact cz.hid a o e
      · have e2 : (if (m2 a).isSome then H1 a else R a) = none := e2
        split at e2
        · rename_i hs
          obtain ⟨x, hx⟩ := Option.isSome_iff_exists.mp hs
          obtain ⟨_, _, o, ho, _⟩ := cz.own a x hx
          rw [e2] at ho; cases ho
        · rename_i hs
          exact cz.oth a (by simpa using hs) e2
    have hB : ∀ a, (m1 a).isSome → m2 a = none → ∃ vs, frzF m1 m2 F1 H1 a = some (.lst vs) := fun a h1 h2 => by
      obtain ⟨x, hx⟩ := Option.isSome_iff_exists.mp h1
      obtain ⟨ys, rfl⟩ := hk a x hx h2
      obtain ⟨_, _, o, ho, rc⟩ := c1.own a _ hx
      cases o with
      | lst ws =>
        refine ⟨ws, ?_⟩
        unfold frzF
        rw [if_pos ⟨h1, h2⟩]; exact ho
      | _ => exact rc.elim
    refine ⟨frzF m1 m2 F1 H1, R2, em, ds.map S.d, _, c2, rps_rs c1 hp r1, q1, fun v x F' m' H' e c' r ⟨hx, hm, q⟩ => ?_⟩
    have hB' : ∀ a, (m1 a).isSome → m2 a = none → ∃ vs, F' a = some (.lst vs) := fun a h1 h2 => by
      obtain ⟨vs, hv⟩ := hB a h1 h2
      exact ⟨vs, e _ _ hv⟩
    have hsm : Same F1 (bkF m1 m2 F') := fun a o ho => by
      have h1 := e _ _ (frzF_same (m' := m2) c1 a o ho)
      unfold bkF
      rw [if_neg]
      · exact h1
      · rintro ⟨h2, _⟩
        obtain ⟨x, hx⟩ := Option.isSome_iff_exists.mp h2
        have := (c1.own a x hx).1
        rw [ho] at this; cases this
    have hnew : ∀ a c, m' a = some c → m1 a = none := fun a c hc => by
      obtain ⟨h1, h2, _⟩ := c'.own a c hc
      cases hm1 : m1 a with
      | none => rfl
      | some z =>
        exfalso
        cases hm2 : m2 a with
        | none =>
          obtain ⟨vs, hv⟩ := hB' a (by rw [hm1]; rfl) hm2
          rw [h1] at hv; cases hv
        | some y =>
          have h2 : (if (m2 a).isSome then H1 a else R a) = none := h2
          rw [hm2] at h2
          have h2 : H1 a = none := h2
          obtain ⟨_, _, o, ho, _⟩ := c1.own a z hm1
          rw [h2] at ho; cases ho
    refine k v x (bkF m1 m2 F') (jn m1 m') H' (e1.trans hsm) ?_ (nls_rs hB' hx r) (q hnew)
    refine ⟨fun a y ey => ?_, fun a o eo => ?_, fun a ea er => ?_⟩
    · unfold jn at ey
      cases hm' : m' a with
      | some z =>
        rw [hm'] at ey
        cases ey
        obtain ⟨h1, h2, o, ho, rc⟩ := c'.own a _ hm'
        have hn := hnew a _ hm'
        refine ⟨?_, ?_, o, ho, ?_⟩
        · unfold bkF; split
          · rfl
          · exact h1
        · have h2 : (if (m2 a).isSome then H1 a else R a) = none := h2
          rw [if_neg] at h2
          · exact h2
          · intro hs
            obtain ⟨w, hw⟩ := Option.isSome_iff_exists.mp hs
            rcases l a with q | q
            · rw [hw, hn] at q; cases q
            · rw [hw] at q; cases q
        · obtain ⟨xs, rfl, hxs⟩ := hm a _ hm'
          cases o with
          | lst ws => exact nls_rss hB' hxs rc
          | _ => exact rc.elim
      | none =>
        rw [hm'] at ey
        have ey : m1 a = some y := ey
        obtain ⟨h1, h2, o, ho, rc⟩ := c1.own a y ey
        refine ⟨?_, h2, o, ?_, rc_mono hsm rc⟩
        · unfold bkF
          split
          · rfl
          · rename_i hs
            cases hm2 : m2 a with
            | none => exact absurd ⟨by rw [ey]; rfl, hm2⟩ hs
            | some z =>
              have := c'.hid a o (show (if (m2 a).isSome then H1 a else R a) = some o by rw [hm2]; exact ho)
              exact this.1
        · cases hm2 : m2 a with
          | none =>
            have hf : frzF m1 m2 F1 H1 a = some o := by unfold frzF; rw [if_pos ⟨by rw [ey]; rfl, hm2⟩]; exact ho
            exact cn_sub c' _ _ (e _ _ hf)
          | some z => exact (c'.hid a o (show (if (m2 a).isSome then H1 a else R a) = some o by rw [hm2]; exact ho)).2
    · have hm1 : m1 a = none := by
        cases hm1 : m1 a with
        | none => rfl
        | some z =>
          have := (c1.own a z hm1).2.1
          rw [eo] at this; cases this
      have hm2 : m2 a = none := by
        rcases l a with q | q
        · rw [q, hm1]
        · exact q
      obtain ⟨h1, h2⟩ := c'.hid a o (show (if (m2 a).isSome then H1 a else R a) = some o by rw [hm2]; exact eo)
      refine ⟨?_, h2⟩
      unfold bkF
      split
      · rfl
      · exact h1
    · unfold jn at ea
      cases hm' : m' a with
      | some z => rw [hm'] at ea; cases ea
      | none =>
        rw [hm'] at ea
        have hm2 : m2 a = none := by
          rcases l a with q | q
          · rw [q]; exact ea
          · exact q
        rw [c'.oth a hm' (show (if (m2 a).isSome then H1 a else R a) = none by rw [hm2]; exact er)]
        unfold bkF
        rw [if_neg]
        rintro ⟨h1, _⟩
        have ea : m1 a = none := ea
        rw [ea] at h1; cases h1
/-- what is asked behind a call of borrowed lists -/
def BQ (Q : S → Mem → Prop) (m1 : Mem) : S → Mem → Prop := fun x m' => NLS x ∧ NLM m' ∧ ((∀ a c, m' a = some c → m1 a = none) → Q x (jn m1 m'))
def tBrw (t : TE) : TE := t
theorem pe_brw {X : Cx} {e : Expr} {te : TE} (h : PE X e te) : PE X e (tBrw te) := h
theorem ar_brw {fs : FS} {E : XK} {t : TA} (h : ARA K t Γ m fun xs m1 => ∃ (ds : List PyData) (m2 : Mem), Le m2 m1 ∧ (∀ a c, m1 a = some c → m2 a = none → ∃ ys, c = .lst ys) ∧ Paired (Rp m1 m2) xs ds ∧ fs (ds.map S.d) em (BQ Q m1)) : AR K (tBrw (tCall (toSp K fs) [] E t)) Γ m Q := ar_callB h
theorem jn_em : jn m em = m := funext fun a => rfl
theorem nlm_em : NLM em := fun a c h => by cases (show (none : Option C) = some c from h)
theorem brw_em {x : S} (h : NLS x) (q : Q x m) : BQ Q m x em := ⟨h, nlm_em, fun _ => by rw [jn_em]; exact q⟩
theorem jn_set {m' : Mem} {a : Addr} {c : C} : jn m (mset m' a c) = mset (jn m m') a c := (by
  funext b
  unfold jn mset
  by_cases e : b = a
  · simp only [if_pos e]
  · simp only [if_neg e])
theorem brw_l {q : Addr} {ds : List PyData} (h : ∀ d ∈ ds, NL d) (k : m q = none → Q (.r q) (mset m q (.lst (ds.map S.d)))) : BQ Q m (.r q) (mset em q (.lst (ds.map S.d))) :=
  ⟨.r, (fun a c hc => by
    by_cases e : a = q
    · subst e
      rw [mset_same] at hc
      cases hc
      exact ⟨_, rfl, fun x hx => by obtain ⟨d, hd, rfl⟩ := List.mem_map.mp hx; exact .d (h d hd)⟩
    · rw [mset_ne e] at hc
      exact absurd (show (none : Option C) = some c from hc) (by simp)), fun hf => by rw [jn_set, jn_em]; exact k (hf q _ mset_same)⟩
theorem nl_pair {p : Nat × Int} : NL (dPair p) := .tup (by
  intro d hd
  rcases List.mem_cons.mp hd with rfl | hd
  · exact .int
  · rw [List.mem_singleton.mp hd]; exact .int)
theorem nl_pairs {ps : List (Nat × Int)} : ∀ d ∈ ps.map dPair, NL d := fun d hd => by
  obtain ⟨p, _, rfl⟩ := List.mem_map.mp hd
  exact nl_pair
theorem cellAt_some : ∀ {as : List Addr} {ss : List (List Int)} {b : Addr} {c : C}, cellAt as ss b = some c → b ∈ as ∧ ∃ s, c = cLs s
  | [], ss, _, _, h => by cases ss <;> cases h
  | _ :: _, [], _, _, h => by cases h
  | a :: as, s :: ss, b, c, h => by
    rw [cellAt] at h
    split at h
    · rename_i e
      cases h
      exact ⟨by rw [e]; exact List.mem_cons_self, s, rfl⟩
    · obtain ⟨h1, h2⟩ := cellAt_some h
      exact ⟨List.mem_cons_of_mem _ h1, h2⟩
variable {as : List Addr} {ss : List (List Int)} {p : Addr}
theorem LLok.nin (h : LLok m as ss) (hp : LLc m as ss p = none) : p ∉ as := fun e => by
  obtain ⟨i, hi, e2⟩ := List.getElem_of_mem e
  obtain ⟨b, hb, hc⟩ := h.at_ (List.getElem?_eq_getElem (show i < ss.length by rw [← h.len]; exact hi))
  rw [List.getElem?_eq_getElem hi, e2] at hb
  cases hb
  rw [hc] at hp; cases hp
theorem ll_jn : jn m (LLc em as ss) = LLc m as ss := (by
  funext b
  unfold jn LLc
  cases cellAt as ss b <;> rfl)
theorem ll_some {b : Addr} {c : C} (h : LLc m as ss b = some c) : (b ∈ as ∧ ∃ s, c = cLs s) ∨ m b = some c := (by
  unfold LLc at h
  cases hc : cellAt as ss b with
  | some z =>
    rw [hc] at h
    cases h
    exact .inl (cellAt_some hc)
  | none =>
    rw [hc] at h
    exact .inr h)
theorem ll_lst : ∀ a c, mset (LLc m as ss) p (.lst (as.map S.r)) a = some c → m a = none → ∃ ys, c = .lst ys := fun a c h hm => by
  by_cases e : a = p
  · subst e
    rw [mset_same] at h
    cases h
    exact ⟨_, rfl⟩
  · rw [mset_ne e] at h
    rcases ll_some h with ⟨_, s, rfl⟩ | h
    · exact ⟨_, rfl⟩
    · rw [hm] at h; cases h
theorem LLok.down {m0 : Mem} (h : LLok m0 as ss) (l : Le m m0) : LLok m as ss := ⟨h.len, h.nd, fun a ha => by
  rcases l a with e | e
  · rw [e]; exact h.fa a ha
  · exact e⟩
theorem le_llc {m0 : Mem} (l : Le m m0) : Le (LLc m as ss) (LLc m0 as ss) := fun b => by
  unfold LLc
  cases cellAt as ss b with
  | some c => exact .inl rfl
  | none => exact l b
theorem brw_ll (h : LLok em as ss) (hp : LLc em as ss p = none) (k : LLok m as ss → LLc m as ss p = none → Q (.r p) (mset (LLc m as ss) p (.lst (as.map S.r)))) : BQ Q m (.r p) (mset (LLc em as ss) p (.lst (as.map S.r))) :=
  ⟨.r, (fun a c hc => by
    by_cases e : a = p
    · subst e
      rw [mset_same] at hc
      cases hc
      exact ⟨_, rfl, fun x hx => by obtain ⟨d, _, rfl⟩ := List.mem_map.mp hx; exact .r⟩
    · rw [mset_ne e] at hc
      rcases ll_some hc with ⟨_, s, rfl⟩ | hc
      · exact ⟨_, rfl, fun x hx => by obtain ⟨d, _, rfl⟩ := List.mem_map.mp hx; exact .d .int⟩
      · exact absurd (show (none : Option C) = some c from hc) (by simp)), fun hf => by
    have hpa := h.nin hp
    rw [jn_set, ll_jn]
    refine k ⟨h.len, h.nd, fun a ha => ?_⟩ (by rw [ll_no hpa]; exact hf p _ mset_same)
    obtain ⟨i, hi, e2⟩ := List.getElem_of_mem ha
    obtain ⟨b, hb, hc⟩ := h.at_ (List.getElem?_eq_getElem (show i < ss.length by rw [← h.len]; exact hi))
    rw [List.getElem?_eq_getElem hi, e2] at hb
    cases hb
    exact hf a _ (by rw [mset_ne (fun e : a = p => hpa (by rw [← e]; exact ha))]; exact hc)⟩
theorem isnot_nonO {a0 : Addr} (q : Q (.d (.bool true)) m) : LO K rISNOT (.r a0) (.d .none) m Q := lo_l fun v u F R H Q' a b c k => by
  cases a; cases b
  exact ⟨rfl, k _ (.d (.bool true)) F m H (Same.refl F) c (Dq.bl _) q⟩
theorem is_nonO {a0 : Addr} (q : Q (.d (.bool false)) m) : LO K rIS (.r a0) (.d .none) m Q := lo_l fun v u F R H Q' a b c k => by
  cases a; cases b
  exact ⟨rfl, k _ (.d (.bool false)) F m H (Same.refl F) c (Dq.bl _) q⟩
end
end DL

namespace DL
open PySem PySem.Spec PySem.W PyProof.Rows L2
/-! ### sorted(set(pairs)), pairs of ints of any sign -/
def encT (q : Addr × List Int) : PyData := .tuple [.int (q.2.getD 0 0), .int (q.2.getD 1 0)]
def leT (p q : Addr × List Int) : Bool := decide (p.2.getD 0 0 < q.2.getD 0 0 ∨ (p.2.getD 0 0 = q.2.getD 0 0 ∧ p.2.getD 1 0 ≤ q.2.getD 1 0))
theorem each_refs : ∀ {vs : List Value} {L : List (Addr × List Int)}, EachIs (fun v (q : Addr × List Int) => v = Value.ref q.1) vs L → vs = L.map fun q => Value.ref q.1
  | _, _, .nil => rfl
  | _, _, .cons h t => by rw [List.map_cons, ← each_refs t, ← h]
theorem refs_each {R : Value → Addr × List Int → Prop} : ∀ {L : List (Addr × List Int)}, (∀ q ∈ L, R (Value.ref q.1) q) → EachIs R (L.map fun q => Value.ref q.1) L
  | [], _ => .nil
  | q :: L, h => .cons (h q List.mem_cons_self) (refs_each fun r hr => h r (List.mem_cons_of_mem _ hr))
section
variable {P : Program} {w : World} {A : Around} {E : Value → Shared → Prop} {s : Shared}
theorem reads_T {h : Heap} {q : Addr × List Int} (h2 : q.2.length = 2) (t : TS.TupInts h (.ref q.1) q.2) : Reads h (.ref q.1) (encT q) [] := (by
  obtain ⟨a, xs, e, ⟨o, ho, hc, n, hd⟩, hi⟩ := t
  injection e with e
  subst e
  have z := hi.reads h
  refine .tuple ho hc hd ?_
  obtain ⟨b, ns⟩ := q
  match ns, h2, z with
  | [x, y], _, z => exact z)
theorem sorted_setP {a : Addr} {L : List (Addr × List Int)} {es : Array (Int × Value)} {ep : Nat} {t : SetTable} {Q : Value → Shared → Prop} (R : SetTR P w s.heap a L es ep t) (hh : A.handled = none) (hu : A.units + 64 < cLine)
    (h2 : ∀ p ∈ L, p.2.length = 2)
    (hQ : ∀ s' p (out : List Value) (c : Nat) (L' : List (Addr × List Int)), (∀ b o, s.heap.get? b = some o → s'.heap.get? b = some o) → s'.gens = s.gens → s'.os = s.os → s.heap.objs.size ≤ p →
      s'.heap.get? p = some (seqObj "list" out.toArray c) → out = L'.map (fun q => Value.ref q.1) → L'.Perm L → L'.Pairwise (fun q r => leT q r = true) → Q (.ref p) s') :
    wpAny (model P w) A (call (.builtin "sorted") [.ref a]) Q E s := by
  obtain ⟨o, ho, hex, hd⟩ := R.ob
  have hsz := R.size
  have hfew := R.few
  refine Calls.call_function_entry kind_sorted plain_sorted entry_sorted (args_sorted1 _) ?_
  unfold Builtin.«sorted»
  refine wpAny_bind (m := checkCount "sorted" 1 1 _) (wpAny_pure ?_)
  refine wpAny_bind (collect_set (A := A.in1) hh ⟨o, ho, hex.1, hd⟩ R.fits (by unfold scanBound; omega) R.tab.ris R.led fun s1 vs k1 hz g1 o1 pm => ?_)
  have hes : es.toList.map (·.2) = L.map fun q => Value.ref q.1 := by
    rw [R.rows]
    unfold L2.rowsOf
    rw [List.map_map] <;> rfl
  rw [hes] at pm
  have ord : ∀ vs : List Value, (∀ v ∈ vs, ∃ q ∈ L, v = Value.ref q.1) → ∃ L1 : List (Addr × List Int), vs = L1.map (fun q => Value.ref q.1) ∧ ∀ q ∈ L1, q ∈ L := by
    intro vs
    induction vs with
    | nil => intro _; exact ⟨[], rfl, fun q hq => (by cases hq)⟩
    | cons v vs ih =>
      intro hv
      obtain ⟨q, hq, e⟩ := hv v List.mem_cons_self
      obtain ⟨L1, e1, hs⟩ := ih fun u hu => hv u (List.mem_cons_of_mem _ hu)
      refine ⟨q :: L1, by rw [List.map_cons, e, e1], fun r hr => ?_⟩
      rcases List.mem_cons.mp hr with z | z
      · rw [z]; exact hq
      · exact hs r z
  have one : ∀ q ∈ L, ∀ r ∈ L, q.1 = r.1 → q = r := fun q hq r hr e => by
    have a1 := R.tup q hq
    have a2 := R.tup r hr
    rw [e] at a1
    exact Prod.ext e (a1.inj a2)
  obtain ⟨L1, hv1, hs1⟩ := ord vs fun v hv => by
    obtain ⟨q, hq, e⟩ := List.mem_map.mp (pm.mem_iff.mp hv)
    exact ⟨q, hq, e.symm⟩
  have pL : L1.Perm L := by
    have pm1 := hv1 ▸ pm
    have nL : L.Nodup := nodup_of_map R.nd
    have nref : (L.map fun q => Value.ref q.1).Nodup := by
      refine List.pairwise_map.mpr (List.Pairwise.imp_of_mem (fun {q r} hq hr hne e => ?_) nL)
      injection e with e
      exact hne (one q hq r hr e)
    have n1 : L1.Nodup := nodup_of_map (pm1.nodup_iff.mpr nref)
    refine (List.perm_ext_iff_of_nodup n1 nL).mpr fun q => ⟨hs1 q, fun hq => ?_⟩
    obtain ⟨r, hr, e⟩ := List.mem_map.mp (pm1.mem_iff.mpr (List.mem_map.mpr ⟨q, hq, rfl⟩))
    injection e with e
    rw [← one r (hs1 r hr) q hq e]
    exact hr
  have hvl : vs.length < 64 := by rw [pm.length_eq, List.length_map]; exact hfew
  have hll : L1.length < 64 := by rw [pL.length_eq]; exact hfew
  refine wpAny_bind (wpAny_newList ?_ (by rw [sizeLine_eq]; omega))
  have hoL : (s1.heap.push (seqObj "list" vs.toArray 0)).get? s1.heap.objs.size = some (seqObj "list" vs.toArray 0) := Heap.get?_push_size _ rfl
  have tk : ∀ q ∈ L1, TS.TupInts (s1.heap.push (seqObj "list" vs.toArray 0)) (.ref q.1) q.2 := fun q hq => tupInts_of (P := P) (w := w) (isT_keep (R.tup q (hs1 q hq)) fun b u e => Heap.get?_push_of_some _ (k1 b u e))
  refine wpAny_bind (wpAny_holding (list_sort_data (s := { s1 with heap := s1.heap.push (seqObj "list" vs.toArray 0) }) (bs := L1) (enc := encT) (R := fun v q => v = Value.ref q.1) hoL (by rw [hv1]; exact refs_each fun q _ => rfl)
    (by rw [hv1]; exact refs_each fun q hq => ⟨[], reads_T (h2 q (hs1 q hq)) (hv1 ▸ tk q hq), by simp⟩) (AllAlike.of fun _ _ => by simp [alike, alikeAll, encT]) (Sortable.tuples fun _ => ⟨_, _, rfl⟩) (by rw [sizeLine_eq]; omega) (fun b _ => ?_) fun out ho2 eo => ?_))
  · have hdp : (encT b).depth = 1 := by simp [encT, PyData.depth, PyData.depthAll]
    rw [hdp]
    simp only [Around.in1] at *
    omega
  have ele : dataLe false encT = leT := dataLe_ii (β := Addr × List Int) (fun q => q.2.getD 0 0) (fun q => q.2.getD 1 0)
  rw [ele] at eo
  have e' := each_refs eo
  obtain ⟨c, hc⟩ := sortedHeap_at (vs := vs) (out := out.toArray) hoL
  have pw : (L1.mergeSort leT).Pairwise (fun q r => leT q r = true) := List.pairwise_mergeSort (fun a b c h1 h2 => by
    unfold leT at *
    rw [decide_eq_true_iff] at *
    omega) (fun a b => by
    unfold leT
    rw [Bool.or_eq_true, decide_eq_true_iff, decide_eq_true_iff]
    omega) L1
  refine wpAny_pure ⟨_, rfl, hQ _ s1.heap.objs.size out c (L1.mergeSort leT) (fun b u e => ?_) g1 o1 hz hc e' ((List.mergeSort_perm L1 leT).trans pL) pw⟩
  have q := k1 b u e
  have hlt := Heap.lt_size q
  show (sortedHeap (s1.heap.push (seqObj "list" vs.toArray 0)) s1.heap.objs.size vs out.toArray).get? b = some u
  rw [sortedHeap_old (Nat.ne_of_lt hlt) (by rw [size_push']; exact Nat.lt_succ_of_lt hlt)]
  exact Heap.get?_push_of_some _ q
end
def tSortSetT (K : PySem.W.Frag) (ta : TE) : TE := fun σ H Q => ta σ H fun x H1 => ∃ (l : Addr) (ks : List (Addr × List Int)), x = .ref l ∧ SqL K H1 l (ks.map fun p => V.ref p.1) ∧ (∀ p ∈ ks, SqT K H1 p.1 (p.2.map V.int)) ∧ (∀ p ∈ ks, p.2.length = 2) ∧ ks.length < 64 ∧
  ∀ (L' : List (Addr × List Int)) (p : Addr), (∀ q ∈ L', q ∈ ks) → (∀ q ∈ ks, q.2 ∈ L'.map (·.2)) → (L'.map (·.2)).Nodup → L'.Pairwise (fun q r => leT q r = true) → H1 p = none → Q (.ref p) (upd H1 p (.lst (L'.map fun q => V.ref q.1)))
theorem pe_sortSetT {X : Cx} {a : Expr} {ta : TE} {p p2 q pos : Pos} (hu : X.A.units + 64 < cLine) (hg : Gl X "sorted") (hm : X.mg "sorted" = none) (hg2 : Gl X "set") (hm2 : X.mg "set" = none) (ha : PE X a ta) (hc : X.calm = true)
    (na : starEach [a] X.env = (false, eval a X.env) :: starEach [] X.env := by rfl) : PE X (.Call (.Name "sorted" p) [.Call (.Name "set" p2) [a] [] q] [] pos) (tSortSetT X.K ta) := by
  refine ⟨fun pins s σ H Q I h => ?_⟩
  refine Call_ (ld_blt I hg hm boot_sorted ?_)
  refine PyProof.Rows.callWith_builtin1 (PyProof.Rows.args_cons ?_ rfl) rfl rfl
  refine Call_ (ld_blt I hg2 hm2 boot_set ?_)
  refine PyProof.Rows.callWith_type1 (PyProof.Rows.args_cons (thn (ha.run pins s σ H _ I h) fun v s1 ⟨x, H1, I1, r1, q1⟩ => PyProof.Rows.args_nil ?_) na) na rfl
  obtain ⟨l, ks, rfl, hq, hk, hk2, hl, q1⟩ := q1
  cases r1
  obtain ⟨its, r, pl, hz⟩ := I1.list hq
  refine call_set_tups (P := X.prog) (w := X.w) ks (I1.ok.hd hc) pl.isList (by simpa using refs_of_vals r) (fun p hp => I1.isT (hk p hp)) hl (by omega) fun h2 tk L es ep t R g k => ?_
  refine PyProof.Rows.args_nil ?_
  have I2 : Inv X pins σ H1 { s1 with heap := h2, toks := tk } := I1.kept fun b o e => k b o e
  have hsub : ∀ p ∈ L, p ∈ ks := fun p hp => List.mem_of_mem_take (g.sub p hp)
  refine sorted_setP (s := { s1 with heap := h2, toks := tk }) R (I2.ok.hd hc) hu (fun p hp => hk2 p (hsub p hp)) fun t p out c2 L' k g' o hp hg2 hout pm pw => ?_
  have hlen : (L'.map fun q => V.ref q.1).length ≤ sizeLine := by rw [List.length_map, pm.length_eq, sizeLine_eq]; have := R.few; omega
  have hn : H1 p = none := I2.hok.fresh hp
  have hv : Vals (L'.map fun q => V.ref q.1) out := by rw [hout]; exact vals_of_refs L'
  have J : Inv X pins σ (upd H1 p (.lst (L'.map fun q => V.ref q.1))) { { s1 with heap := h2, toks := tk } with heap := t.heap, gens := t.gens, drawn := t.drawn, toks := t.toks } :=
    I2.call (ch := []) (Un.laid k hp hn) (I2.hok.laid k hp ⟨hlen, out, c2, hv, hg2⟩) (by rw [g']; exact I2.bare) (fun _ z => nomatch z)
  have e : t = { { s1 with heap := h2, toks := tk } with heap := t.heap, gens := t.gens, drawn := t.drawn, toks := t.toks } := by
    cases t; cases s1; cases o; rfl
  rw [e]
  refine ⟨.ref p, _, J, rfl, q1 L' p (fun q hq => hsub q (pm.mem_iff.mp hq)) (fun q hq => ?_) ((pm.map (·.2)).nodup_iff.mpr R.nd) pw hn⟩
  have := g.all q (by rw [List.take_length]; exact hq)
  exact ((pm.map (·.2)).mem_iff).mpr this
theorem pe_sortSetTK {K : PySem.W.Frag} {X : Cx} {a : Expr} {ta : TE} {p p2 q pos : Pos} (h : X.K = K) (hu : X.A.units + 64 < cLine) (hg : Gl X "sorted") (hm : X.mg "sorted" = none) (hg2 : Gl X "set") (hm2 : X.mg "set" = none) (ha : PE X a ta) (hc : X.calm = true)
    (na : starEach [a] X.env = (false, eval a X.env) :: starEach [] X.env := by rfl) : PE X (.Call (.Name "sorted" p) [.Call (.Name "set" p2) [a] [] q] [] pos) (tSortSetT K ta) := h ▸ pe_sortSetT hu hg hm hg2 hm2 ha hc na
/-- pairs in order, each once -/
def Lx (zs : List (Nat × Int)) : Prop := zs.Pairwise fun p q => p.1 < q.1 ∨ (p.1 = q.1 ∧ p.2 < q.2)
def l2 (p : Nat × Int) : List Int := [(p.1 : Int), p.2]
section
variable {K : PySem.W.Frag} {Γ : Sl} {m : Mem} {Q : S → Mem → Prop} {te : TE}
theorem pairs_ks {F : Hp} : ∀ {vs : List V} {ps : List (Nat × Int)}, DqAll K F vs (ps.map dPair) → ∃ ks : List (Addr × List Int), vs = ks.map (fun q => V.ref q.1) ∧ ks.map (·.2) = ps.map l2 ∧ ∀ q ∈ ks, F q.1 = some (.tup (q.2.map V.int))
  | _, [], h => by
    have h : DqAll K F _ [] := h
    cases h
    exact ⟨[], rfl, rfl, fun q hq => nomatch hq⟩
  | _, p :: ps, h => by
    have h : DqAll K F _ (dPair p :: ps.map dPair) := h
    cases h with
    | cons h1 h2 =>
      obtain ⟨ks, e1, e2, e3⟩ := pairs_ks h2
      obtain ⟨a, xs, rfl, ha, hx⟩ := dp_tupH h1
      cases hx with
      | cons x1 hx =>
        cases hx with
        | cons x2 hx =>
          cases hx; cases x1; cases x2
          refine ⟨(a, l2 p) :: ks, by rw [List.map_cons, e1], by rw [List.map_cons, List.map_cons, e2], fun q hq => ?_⟩
          rcases List.mem_cons.mp hq with rfl | hq
          · exact ha
          · exact e3 q hq
def ofT (q : Addr × List Int) : Nat × Int := ((q.2.getD 0 0).toNat, q.2.getD 1 0)
theorem ks_pairs {F : Hp} : ∀ {L : List (Addr × List Int)}, (∀ q ∈ L, F q.1 = some (.tup (q.2.map V.int)) ∧ ∃ p : Nat × Int, q.2 = l2 p) → DqAll K F (L.map fun q => V.ref q.1) ((L.map ofT).map dPair)
  | [], _ => .nil
  | q :: L, h => by
    obtain ⟨h1, p, h2⟩ := h q List.mem_cons_self
    refine .cons ?_ (ks_pairs fun r hr => h r (List.mem_cons_of_mem _ hr))
    have e : ofT q = p := by unfold ofT; rw [h2]; rfl
    rw [e]
    rw [h2] at h1
    exact Dq.tup h1 (.cons (.int _) (.cons (.int _) .nil))
theorem sortset_core {QQ : List (Nat × Int) → Mem → Prop} {σ : L2.St} {F R H : Hp} {Q' : VK} (h : AR K te Γ m fun x m1 => ∃ ps : List (Nat × Int), x = .d (dPairs ps) ∧ ps.length ≤ 63 ∧ ∀ zs : List (Nat × Int), Lx zs → (∀ p, p ∈ zs ↔ p ∈ ps) → QQ zs m1) (g : RG K F σ Γ) (c : Cn K m F R H)
    (k : ∀ F1 m1 H1 vs zs p, Same F F1 → Cn K m1 F1 R H1 → H1 p = none → DqAll K F1 vs (zs.map dPair) → QQ zs m1 → Q' (.ref p) (upd H1 p (.lst vs))) : tSortSetT K te σ H Q' :=
  h σ F R H _ g c fun v x F1 m1 H1 e1 c1 r1 q1 => by
    obtain ⟨ps, rfl, hl, q⟩ := q1
    obtain ⟨p, vs, rfl, h1, h2⟩ := dp_list r1
    obtain ⟨ks, rfl, e2, e3⟩ := pairs_ks h2
    have hks : ∀ q ∈ ks, ∃ p ∈ ps, q.2 = l2 p := fun q hq => by
      have : q.2 ∈ ps.map l2 := by rw [← e2]; exact List.mem_map.mpr ⟨q, hq, rfl⟩
      obtain ⟨p, hp, e⟩ := List.mem_map.mp this
      exact ⟨p, hp, e.symm⟩
    have hlen : ks.length = ps.length := by rw [← List.length_map (f := (·.2)) (as := ks), e2, List.length_map]
    refine ⟨p, ks, rfl, (cn_sub c1).seq h1, fun q hq => .inl (.inl (cn_sub c1 _ _ (e3 q hq))), fun q hq => ?_, by omega, fun L' l hs1 hs2 hnd hpw hlp => ?_⟩
    · obtain ⟨p, _, e⟩ := hks q hq
      rw [e]; rfl
    have hof : ∀ q ∈ L', q.2 = l2 (ofT q) := fun q hq => by
      obtain ⟨p, _, e⟩ := hks q (hs1 q hq)
      unfold ofT
      rw [e]; rfl
    refine k F1 m1 H1 _ (L'.map ofT) l e1 c1 hlp (ks_pairs fun q hq => ⟨e3 q (hs1 q hq), ofT q, hof q hq⟩) (q (L'.map ofT) ?_ fun p => ⟨fun hp => ?_, fun hp => ?_⟩)
    · refine List.pairwise_map.mpr (List.Pairwise.imp_of_mem (fun {a b} ha hb h => ?_) (hpw.and (List.pairwise_map.mp hnd)))
      obtain ⟨h, hne⟩ := h
      have ea := hof a ha
      have eb := hof b hb
      unfold leT at h
      rw [decide_eq_true_iff, ea, eb] at h
      rw [ea, eb] at hne
      have h : ((ofT a).1 : Int) < ((ofT b).1 : Int) ∨ (((ofT a).1 : Int) = ((ofT b).1 : Int) ∧ (ofT a).2 ≤ (ofT b).2) := h
      rcases h with h | ⟨h, h'⟩
      · exact .inl (by omega)
      · have : (ofT a).2 ≠ (ofT b).2 := fun e => hne (by unfold l2; rw [h, e])
        exact .inr ⟨by omega, by omega⟩
    · obtain ⟨a, ha, rfl⟩ := List.mem_map.mp hp
      obtain ⟨p, hp, e⟩ := hks a (hs1 a ha)
      have : ofT a = p := by unfold ofT; rw [e]; rfl
      rw [this]; exact hp
    · have : l2 p ∈ ks.map (·.2) := by rw [e2]; exact List.mem_map.mpr ⟨p, hp, rfl⟩
      obtain ⟨a, ha, e⟩ := List.mem_map.mp this
      obtain ⟨b, hb, eb⟩ := List.mem_map.mp (hs2 a ha)
      refine List.mem_map.mpr ⟨b, hb, ?_⟩
      unfold ofT
      have eb : b.2 = a.2 := eb
      rw [eb, e]; rfl
theorem sortset_t (h : AR K te Γ m fun x m1 => ∃ ps : List (Nat × Int), x = .d (dPairs ps) ∧ ps.length ≤ 63 ∧ ∀ zs : List (Nat × Int), Lx zs → (∀ p, p ∈ zs ↔ p ∈ ps) → Q (.d (dPairs zs)) m1) : AR K (tSortSetT K te) Γ m Q := fun σ F R H Q' g c k =>
  sortset_core (QQ := fun zs m1 => Q (.d (dPairs zs)) m1) h g c fun F1 m1 H1 vs zs p e1 c1 hp hd q => new_D c1 hp hd (fun w z F3 m3 H3 e3 c3 r3 q3 => k w z F3 m3 H3 (e1.trans e3) c3 r3 q3) q
/-- .. a list of one's own -/
theorem sortset_o (h : AR K te Γ m fun x m1 => ∃ ps : List (Nat × Int), x = .d (dPairs ps) ∧ ps.length ≤ 63 ∧ ∀ zs : List (Nat × Int), Lx zs → (∀ p, p ∈ zs ↔ p ∈ ps) → ∀ p, m1 p = none → Q (.r p) (mset m1 p (.lst ((zs.map dPair).map S.d)))) : AR K (tOwn (tSortSetT K te)) Γ m Q := fun σ F R H Q' g c k =>
  sortset_core (QQ := fun zs m1 => ∀ p, m1 p = none → Q (.r p) (mset m1 p (.lst ((zs.map dPair).map S.d)))) h g c fun F1 m1 H1 vs zs p e1 c1 hp hd q => new_O c1 hp (dpa_rss hd) (fun w z F3 m3 H3 e3 c3 r3 q3 => k w z F3 m3 H3 (e1.trans e3) c3 r3 q3) q
/-- list(reversed(xs)) of an owned list -/
theorem ar_listRevO (h : AR K te Γ m fun x m1 => ∃ (a : Addr) (ds : List PyData), x = .r a ∧ m1 a = some (.lst (ds.map S.d)) ∧ Q (.d (.list ds.reverse)) m1) : AR K (tListRev K te) Γ m Q := fun σ F R H Q' g c k =>
  h σ F R H _ g c fun v x F1 m1 H1 e1 c1 r1 q1 => by
    obtain ⟨a, ds, rfl, hm, q⟩ := q1
    obtain ⟨vs, hv, rs⟩ := own_lst c1 hm
    cases r1
    exact ⟨a, vs, rfl, .inl (.inl hv), fun l hl => new_D c1 hl (dqa_rev (rss_dpa rs)) (fun w z F3 m3 H3 e3 c3 r3 q3 => k w z F3 m3 H3 (e1.trans e3) c3 r3 q3) q⟩
end
end DL

namespace DL
open PySem PySem.Spec PyProof.Rows L2
/-! ### len(set(t)) of a tuple of ints -/
def tLenSetTu (K : PySem.W.Frag) (ta : TE) : TE := fun σ H Q => ta σ H fun x H1 => ∃ (l : Addr) (ns : List Int), x = .ref l ∧ SqT K H1 l (ns.map V.int) ∧ ns.length ≤ 4000 ∧ ∀ n : Nat, n ≤ ns.length → (n = ns.length ↔ ns.Nodup) → Q (.int n) H1
theorem pe_lenSetTu {X : Cx} {a : Expr} {ta : TE} {p p2 q pos : Pos} (hg : Gl X "len") (hm : X.mg "len" = none) (hg2 : Gl X "set") (hm2 : X.mg "set" = none) (ha : PE X a ta) (hc : X.calm = true)
    (na : starEach [a] X.env = (false, eval a X.env) :: starEach [] X.env := by rfl) : PE X (.Call (.Name "len" p) [.Call (.Name "set" p2) [a] [] q] [] pos) (tLenSetTu X.K ta) := by
  refine ⟨fun pins s σ H Q I h => ?_⟩
  refine Call_ (ld_blt I hg hm boot_len ?_)
  refine PyProof.Rows.callWith_builtin1 (PyProof.Rows.args_cons ?_ rfl) rfl rfl
  refine Call_ (ld_blt I hg2 hm2 boot_set ?_)
  refine PyProof.Rows.callWith_type1 (PyProof.Rows.args_cons (thn (ha.run pins s σ H _ I h) fun v s1 ⟨x, H1, I1, r1, q1⟩ => PyProof.Rows.args_nil ?_) na) na rfl
  obtain ⟨l, ns, rfl, hq, hl, q1⟩ := q1
  cases r1
  obtain ⟨its, r, pl, hz⟩ := I1.tuple hq
  refine call_set_tupI ns (I1.ok.hd hc) pl (by simpa using r.ints) (by unfold scanBound; omega) fun h2 tk c hS hcl hk => ?_
  refine PyProof.Rows.args_nil ?_
  have I2 : Inv X pins σ H1 { s1 with heap := h2, toks := tk } := I1.kept fun b o e => hk b o e
  obtain ⟨o, es, ep, t, ho, hex, hd, g, nd, hmm, hb, hf, hn, hr, hll⟩ := hS
  have hkl : (es.toList.map keyOf).length = c := by rw [List.length_map]; exact hn
  have hdl := dist_len (ns := ns) nd (fun k => (hmm k).symm.trans (by simp)) (by rw [hkl]; exact hcl)
  rw [hkl] at hdl
  exact call_len_set ho hex hd hf (by rw [hn] <;> omega) ⟨.int c, H1, I2.tok _, ⟨_, by rw [hn]⟩, q1 c hcl hdl⟩
section
variable {K : PySem.W.Frag} {Γ : Sl} {m : Mem} {Q : S → Mem → Prop} {te : TE}
theorem pe_lenSetTuK {X : Cx} {a : Expr} {ta : TE} {p p2 q pos : Pos} (h : X.K = K) (hg : Gl X "len") (hm : X.mg "len" = none) (hg2 : Gl X "set") (hm2 : X.mg "set" = none) (ha : PE X a ta) (hc : X.calm = true)
    (na : starEach [a] X.env = (false, eval a X.env) :: starEach [] X.env := by rfl) : PE X (.Call (.Name "len" p) [.Call (.Name "set" p2) [a] [] q] [] pos) (tLenSetTu K ta) := h ▸ pe_lenSetTu hg hm hg2 hm2 ha hc na
theorem ar_lenSetT (h : AR K te Γ m fun x m1 => ∃ ns : List Int, x = .d (.tuple (ns.map PyData.int)) ∧ ns.length ≤ 4000 ∧ ∀ n : Nat, n ≤ ns.length → (n = ns.length ↔ ns.Nodup) → Q (.d (.int (n : Nat))) m1) : AR K (tLenSetTu K te) Γ m Q := fun σ F R H Q' g c k =>
  h σ F R H _ g c fun v x F1 m1 H1 e1 c1 r1 q1 => by
    obtain ⟨ns, rfl, hl, q⟩ := q1
    obtain ⟨p, vs, rfl, h1, h2⟩ := dp_tupH r1
    obtain rfl := ints_of h2
    exact ⟨p, ns, rfl, .inl (.inl (cn_sub c1 _ _ h1)), hl, fun n hn1 hn2 => k _ (.d (.int (n : Nat))) F1 m1 H1 e1 c1 (Dq.int _) (q n hn1 hn2)⟩
/-! ### dict(xs) of pairs, keys more than once -/
def mergeI (acc : List (Int × S)) (kvs : List (Int × PyData)) : List (Int × S) := kvs.foldl (fun a p => putG a p.1 (S.d p.2)) acc
theorem merge_pr {F : Hp} : ∀ {ws : List (Key × V)} {kvs : List (Int × PyData)} {vs : List (Key × V)} {acc : List (Int × S)}, Paired (fun (p : Key × V) (q : Key × S) => p.1 = q.1 ∧ RS K F p.2 q.2) vs (acc.map fun p => ((Sum.inl p.1 : Key), p.2)) → Paired (fun (p : Key × V) (q : Key × S) => p.1 = q.1 ∧ RS K F p.2 q.2) ws (kvs.map fun p => ((Sum.inl p.1 : Key), S.d p.2)) → Paired (fun (p : Key × V) (q : Key × S) => p.1 = q.1 ∧ RS K F p.2 q.2) (mergeK vs ws) ((mergeI acc kvs).map fun p => ((Sum.inl p.1 : Key), p.2))
  | [], [], _, _, h, _ => h
  | [], _ :: _, _, _, _, h => nomatch h
  | _ :: _, [], _, _, _, h => nomatch h
  | (k, v) :: ws, p :: kvs, vs, acc, h, h2 => by
    rw [List.map_cons] at h2
    cases h2 with
    | cons a t =>
      obtain ⟨rfl, rv⟩ := a
      have z := pr_put_val (P := RS K F) (k := (Sum.inl p.1 : Key)) rv h
      rw [putG_map inl_inj] at z
      exact merge_pr (ws := ws) (kvs := kvs) (vs := putK vs (Sum.inl p.1) v) (acc := putG acc p.1 (S.d p.2)) z t
theorem mergeI_get {k : Int} : ∀ {kvs : List (Int × PyData)} {acc : List (Int × S)}, (getG (mergeI acc kvs) k).isSome = true ↔ (getG acc k).isSome = true ∨ k ∈ kvs.map (·.1)
  | [], acc => by
    show (getG acc k).isSome = true ↔ _
    simp
  | p :: kvs, acc => by
    show (getG (mergeI (putG acc p.1 (S.d p.2)) kvs) k).isSome = true ↔ _
    rw [mergeI_get, getG_put, List.map_cons, List.mem_cons]
    by_cases e : k = p.1
    · simp [e]
    · simp [e]
theorem dictp_any {kvs : List (Int × PyData)} (q : ∀ p kvs', m p = none → (∀ k, (getG kvs' k).isSome = true ↔ k ∈ kvs.map (·.1)) → Q (.r p) (mset m p (cI kvs'))) : LB K (rDictP K) [.d (.list (kvs.map fun p => .tuple [.int p.1, p.2]))] m Q := fun vs F R H Q' h c k => by
  cases h with
  | cons h d =>
    cases d
    obtain ⟨a, xs, rfl, hF, hx⟩ := dp_listH h
    obtain ⟨ps, ws, rfl, h1, h2, h3⟩ := dictp_rows (cn_sub c) hx
    refine ⟨a, ps, ws, rfl, .inl (.inl (cn_sub c _ _ hF)), h1, fun l hl => k _ (.r l) F _ _ (Same.refl F) (cn_newO (o := .dK (mergeK [] ws)) (x := cI (mergeI [] kvs)) c hl ?_) rfl (q l _ (cn_fresh c hl).2.1 fun k => ?_)⟩
    · exact merge_pr (vs := []) (acc := []) .nil h2
    · rw [mergeI_get]
      simp [getG_nil]
end
end DL

namespace DL
open PySem PySem.Spec PyProof.Rows L2
/-! ### calls that borrow some lists and are handed others to change -/
def jk (mk m m' : Mem) : Mem := fun a => match m' a with
  | some c => some c
  | none => if (mk a).isSome = true then none else m a
def BQK (Q : S → Mem → Prop) (m1 mk : Mem) : S → Mem → Prop := fun x m' => NLS x ∧ NLM m' ∧ ((∀ a c, m' a = some c → m1 a = none ∨ (mk a).isSome = true) → Q x (jk mk m1 m'))
/-- an argument: as it is, or a list as data -/
def KoB (m1 m2 : Mem) (x y : S) : Prop := y = x ∨ ∃ d, y = .d d ∧ Rp m1 m2 x d
section
variable {K : PySem.W.Frag} {Γ : Sl} {m : Mem} {Q : S → Mem → Prop}
theorem kob_rs {m m2 : Mem} {F R H : Hp} (c : Cn K m F R H) : ∀ {vs : List V} {xs ys : List S}, Paired (KoB m m2) xs ys → RSs K F vs xs → RSs K (frzF m m2 F H) vs ys
  | _, _, _, .nil, .nil => .nil
  | _, _, _, .cons q qs, .cons h hs => by
    refine .cons ?_ (kob_rs c qs hs)
    rcases q with rfl | ⟨d, rfl, rp⟩
    · exact rs_mono (frzF_same c) h
    · exact rp_dp c rp h
set_option maxHeartbeats 1000000 in
theorem ar_callK {fs : FS} {E : XK} {t : TA} (h : ARA K t Γ m fun xs m1 => ∃ (ys : List S) (m2 mk : Mem), Le m2 m1 ∧ Le mk m2 ∧ (∀ a c, m1 a = some c → m2 a = none → ∃ zs, c = .lst zs) ∧ Paired (KoB m1 m2) xs ys ∧ fs ys mk (BQK Q m1 mk)) : AR K (tCall (toSp K fs) [] E t) Γ m Q := fun σ F R H Q' g c k =>
  h σ F R H _ g c fun vs xs F1 m1 H1 e1 c1 r1 ⟨ys, m2, mk, l, lk, hk, hp, q1⟩ => by
    show toSp K fs (vs ++ []) H1 Q' E
    rw [List.append_nil]
    have cz := cn_frz c1 l
    let R2 : Hp := fun a => if (m2 a).isSome = true ∧ mk a = none then H1 a else R a
    have r2y : ∀ a, (m2 a).isSome = true → mk a = none → R2 a = H1 a := fun a h1 h2 => if_pos ⟨h1, h2⟩
    have r2n : ∀ a, ¬ ((m2 a).isSome = true ∧ mk a = none) → R2 a = R a := fun a h => if_neg h
    have mk2 : ∀ a x, mk a = some x → m2 a = some x := fun a x e => by
      rcases lk a with q | q
      · rw [← q]; exact e
      · rw [q] at e; cases e
    have m21 : ∀ a x, m2 a = some x → m1 a = some x := fun a x e => by
      rcases l a with q | q
      · rw [← q]; exact e
      · rw [q] at e; cases e
    have c2 : Cn K mk (frzF m1 m2 F1 H1) R2 H1 := by
      refine ⟨fun a x e => ?_, fun a o e => ?_, fun a e1 e2 => ?_⟩
      · obtain ⟨h1, h2, h3⟩ := cz.own a x (mk2 a x e)
        exact ⟨h1, by rw [r2n a (fun h => by rw [e] at h; cases h.2)]; exact h2, h3⟩
      · by_cases hc : (m2 a).isSome = true ∧ mk a = none
        · rw [r2y a hc.1 hc.2] at e
          obtain ⟨x, hx⟩ := Option.isSome_iff_exists.mp hc.1
          exact ⟨(cz.own a x hx).1, e⟩
        · rw [r2n a hc] at e
          exact cz.hid a o e
      · by_cases hs : (m2 a).isSome = true
        · rw [r2y a hs e1] at e2
          obtain ⟨x, hx⟩ := Option.isSome_iff_exists.mp hs
          obtain ⟨_, _, o, ho, _⟩ := cz.own a x hx
          rw [e2] at ho; cases ho
        · rw [r2n a (fun h => hs h.1)] at e2
          exact cz.oth a (by simpa using hs) e2
    have hB : ∀ a, (m1 a).isSome = true → m2 a = none → ∃ vs, frzF m1 m2 F1 H1 a = some (.lst vs) := fun a h1 h2 => by
      obtain ⟨x, hx⟩ := Option.isSome_iff_exists.mp h1
      obtain ⟨zs, rfl⟩ := hk a x hx h2
      obtain ⟨_, _, o, ho, rc⟩ := c1.own a _ hx
      cases o with
      | lst ws =>
        refine ⟨ws, ?_⟩
        unfold frzF
        rw [if_pos ⟨h1, h2⟩]; exact ho
      | _ => exact rc.elim
    refine ⟨frzF m1 m2 F1 H1, R2, mk, ys, _, c2, kob_rs c1 hp r1, q1, fun v x F' m' H' e c' r ⟨hx, hm, q⟩ => ?_⟩
    have hB' : ∀ a, (m1 a).isSome → m2 a = none → ∃ vs, F' a = some (.lst vs) := fun a h1 h2 => by
      obtain ⟨vs, hv⟩ := hB a h1 h2
      exact ⟨vs, e _ _ hv⟩
    have hsm : Same F1 (bkF m1 m2 F') := fun a o ho => by
      have h1 := e _ _ (frzF_same (m' := m2) c1 a o ho)
      unfold bkF
      rw [if_neg]
      · exact h1
      · rintro ⟨h2, _⟩
        obtain ⟨x, hx⟩ := Option.isSome_iff_exists.mp h2
        have := (c1.own a x hx).1
        rw [ho] at this; cases this
    have hnew : ∀ a c, m' a = some c → m1 a = none ∨ (mk a).isSome = true := fun a c hc => by
      obtain ⟨h1, h2, _⟩ := c'.own a c hc
      cases hm1 : m1 a with
      | none => exact .inl rfl
      | some z =>
        cases hm2 : m2 a with
        | none =>
          obtain ⟨vs, hv⟩ := hB' a (by rw [hm1]; rfl) hm2
          rw [h1] at hv; cases hv
        | some y =>
          cases hmk : mk a with
          | some u => exact .inr rfl
          | none =>
            rw [r2y a (by rw [hm2]; rfl) hmk] at h2
            obtain ⟨_, _, o, ho, _⟩ := c1.own a z hm1
            rw [h2] at ho; cases ho
    refine k v x (bkF m1 m2 F') (jk mk m1 m') H' (e1.trans hsm) ?_ (nls_rs hB' hx r) (q hnew)
    refine ⟨fun a y ey => ?_, fun a o eo => ?_, fun a ea er => ?_⟩
    · unfold jk at ey
      cases hm' : m' a with
      | some z =>
        rw [hm'] at ey
        cases ey
        obtain ⟨h1, h2, o, ho, rc⟩ := c'.own a _ hm'
        refine ⟨?_, ?_, o, ho, ?_⟩
        · unfold bkF; split
          · rfl
          · exact h1
        · by_cases hc : (m2 a).isSome = true ∧ mk a = none
          · rw [r2y a hc.1 hc.2] at h2
            obtain ⟨w, hw⟩ := Option.isSome_iff_exists.mp hc.1
            obtain ⟨_, _, o, ho, _⟩ := cz.own a w hw
            rw [h2] at ho; cases ho
          · rw [r2n a hc] at h2; exact h2
        · obtain ⟨zs, rfl, hzs⟩ := hm a _ hm'
          cases o with
          | lst ws => exact nls_rss hB' hzs rc
          | _ => exact rc.elim
      | none =>
        rw [hm'] at ey
        have ey : (if (mk a).isSome = true then none else m1 a) = some y := ey
        split at ey
        · cases ey
        · rename_i hmk
          have hmk : mk a = none := by simpa using hmk
          obtain ⟨h1, h2, o, ho, rc⟩ := c1.own a y ey
          refine ⟨?_, h2, o, ?_, rc_mono hsm rc⟩
          · unfold bkF
            split
            · rfl
            · rename_i hs
              cases hm2 : m2 a with
              | none => exact absurd ⟨by rw [ey]; rfl, hm2⟩ hs
              | some z => exact (c'.hid a o (by rw [r2y a (by rw [hm2]; rfl) hmk]; exact ho)).1
          · cases hm2 : m2 a with
            | none =>
              have hf : frzF m1 m2 F1 H1 a = some o := by unfold frzF; rw [if_pos ⟨by rw [ey]; rfl, hm2⟩]; exact ho
              exact cn_sub c' _ _ (e _ _ hf)
            | some z => exact (c'.hid a o (by rw [r2y a (by rw [hm2]; rfl) hmk]; exact ho)).2
    · have hm1 : m1 a = none := by
        cases hm1 : m1 a with
        | none => rfl
        | some z =>
          have := (c1.own a z hm1).2.1
          rw [eo] at this; cases this
      have hm2 : m2 a = none := by
        rcases l a with q | q
        · rw [q, hm1]
        · exact q
      obtain ⟨h1, h2⟩ := c'.hid a o (by rw [r2n a (fun h => by rw [hm2] at h; cases h.1)]; exact eo)
      refine ⟨?_, h2⟩
      unfold bkF
      split
      · rfl
      · exact h1
    · unfold jk at ea
      cases hm' : m' a with
      | some z => rw [hm'] at ea; cases ea
      | none =>
        rw [hm'] at ea
        have ea : (if (mk a).isSome = true then none else m1 a) = none := ea
        cases hmk : mk a with
        | some u =>
          have h2 := mk2 a u hmk
          rw [c'.oth a hm' (by rw [r2n a (fun h => by rw [hmk] at h; cases h.2)]; exact er)]
          unfold bkF
          rw [if_neg]
          rintro ⟨_, h⟩
          rw [h2] at h; cases h
        | none =>
          rw [hmk] at ea
          have ea : m1 a = none := ea
          have hm2 : m2 a = none := by
            rcases l a with q | q
            · rw [q]; exact ea
            · exact q
          rw [c'.oth a hm' (by rw [r2n a (fun h => by rw [hm2] at h; cases h.1)]; exact er)]
          unfold bkF
          rw [if_neg]
          rintro ⟨h1, _⟩
          rw [ea] at h1; cases h1
theorem ar_kpt {fs : FS} {E : XK} {t : TA} (h : ARA K t Γ m fun xs m1 => ∃ (ys : List S) (m2 mk : Mem), Le m2 m1 ∧ Le mk m2 ∧ (∀ a c, m1 a = some c → m2 a = none → ∃ zs, c = .lst zs) ∧ Paired (KoB m1 m2) xs ys ∧ fs ys mk (BQK Q m1 mk)) : AR K (tBrw (tCall (toSp K fs) [] E t)) Γ m Q := ar_callK h
/-- one list was handed to be changed: a list without lists -/
theorem kpt_one {x : S} {p : Addr} {c c' : C} (hx : NLS x) (hc : ∃ xs, c' = .lst xs ∧ ∀ x ∈ xs, NLS x) (q : Q x (mset m p c')) : BQK Q m (mset em p c) x (mset em p c') :=
  ⟨hx, (fun a d hd => by
    by_cases e : a = p
    · subst e
      rw [mset_same] at hd
      cases hd
      exact hc
    · rw [mset_ne e] at hd
      exact absurd (show (none : Option C) = some d from hd) (by simp)), fun _ => by
    have e : jk (mset em p c) m (mset em p c') = mset m p c' := by
      funext a
      unfold jk
      by_cases e : a = p
      · subst e; simp only [mset_same]
      · rw [mset_ne e, mset_ne e, mset_ne e]; rfl
    rw [e]; exact q⟩
variable {g : TG} {tt : TT} {te : TE} {ws : List Nat} {ds : List S} {G : Mem → Prop} {m1 : Mem}
/-- a comprehension that makes a list of lists, memory changing: J by the part taken -/
theorem lc_LLm {α : Type} (xs : List α) (F : α → S) (hds : ds = xs.map F) (J : List α → List S → Mem → Prop) (hn : xs.length ≤ 900000) (hG : ∀ pre acc m', J pre acc m' → G m') (h0 : J [] [] m1)
    (hs : ∀ pre x post acc m', xs = pre ++ x :: post → J pre acc m' → ARGw K ws g (F x) (wipeS Γ ws) m' fun Γ2 m2 => AR K te Γ2 m2 fun y m4 => J (pre ++ [x]) (acc ++ [y]) m4)
    (q : ∀ acc m', J xs acc m' → ∀ p, m' p = none → Q (.r p) (mset m' p (.lst acc))) : LCL K g tYes te ws Γ Q ds G m1 := by
  subst hds
  refine ⟨by rw [List.length_map]; exact hn, fun i acc m' => J (xs.take i) acc m', h0, fun i x acc m' hx hj => ?_, fun acc m' hj hl => ?_⟩
  · rw [List.getElem?_map] at hx
    cases e : xs[i]? with
    | none => rw [e] at hx; cases hx
    | some y =>
      rw [e] at hx; cases hx
      have hi := (List.getElem?_eq_some_iff.mp e).1
      refine ⟨hG _ _ _ hj, fun v σ F' R H Q' rv gg c k => hs (xs.take i) y (xs.drop (i + 1)) acc m' (by
        rw [← (List.getElem?_eq_some_iff.mp e).2, ← List.drop_eq_getElem_cons hi, List.take_append_drop]) hj v σ F' R H Q' rv gg c fun σ' Γ' F2 m' H' w e' g' c' q' => k σ' Γ' F2 m' H' w e' g' c' (art_yes ?_)⟩
      rw [if_pos rfl]
      refine ar_mono q' fun z m4 hj2 => ?_
      show J (List.take (i + 1) xs) _ _
      rw [take_snoc e]; exact hj2
  · rw [List.length_map, List.take_length] at hj
    exact ⟨hG _ _ _ hj, q acc m' hj⟩
theorem ll_at {as : List Addr} {ss : List (List Int)} {mb : Mem} (h : LLok mb as ss) {i : Nat} (hi : i < ss.length) : ∃ a, as[i]? = some a ∧ LLc mb as ss a = some (cLs (ss.getD i [])) := h.at_ (by rw [List.getElem?_eq_getElem hi, List.getD_eq_getElem?_getD, List.getElem?_eq_getElem hi]; rfl)
end
end DL

namespace DL
open PySem PySem.Spec PyProof.Rows L2
section
variable {K : PySem.W.Frag} {Γ : Sl} {m : Mem} {Q : S → Mem → Prop} {te : TE}
theorem rss_ints {F : Hp} : ∀ {ns : List Int}, RSs K F (ns.map V.int) (ns.map fun n => S.d (.int n))
  | [] => .nil
  | n :: ns => .cons (Dq.int n) rss_ints
/-- sorted(set(xs)), a list of one's own -/
theorem ar_sortSetO (h : AR K te Γ m fun x m1 => ∃ ns : List Int, x = .d (dI ns) ∧ ns.length ≤ 4000 ∧ ∀ zs : List Int, zs.Pairwise (· < ·) → (∀ k, k ∈ zs ↔ k ∈ ns) → ∀ p, m1 p = none → Q (.r p) (mset m1 p (.lst (zs.map fun n => S.d (.int n))))) : AR K (tOwn (tSortSet K te)) Γ m Q := fun σ F R H Q' g c k =>
  h σ F R H _ g c fun v x F1 m1 H1 e1 c1 r1 q1 => by
    obtain ⟨ns, rfl, hl, q⟩ := q1
    obtain ⟨p, vs, rfl, h1, h2⟩ := dp_list r1
    obtain rfl := ints_of h2
    exact ⟨p, ns, rfl, (cn_sub c1).seq h1, hl, fun zs l hz1 hz2 hlp => new_O c1 hlp rss_ints (fun w z F3 m3 H3 e3 c3 r3 q3 => k w z F3 m3 H3 (e1.trans e3) c3 r3 q3) (q zs hz1 hz2)⟩
end
end DL

namespace DL
open PySem PySem.Spec PySem.W PyProof.Rows L2
/-! ### sorted of pairs of ints; list.count; True in bools; == of lists of ints -/
abbrev dII (p : Int × Int) : PyData := .tuple [.int p.1, .int p.2]
theorem cr_sortedPOK {K : PySem.W.Frag} {X : Cx} (h : X.K = K) : CallR X (.builtin "sorted") (rSortedPO K) := h ▸ cr_sortedPO
theorem mt_lcountK {K : PySem.W.Frag} {X : Cx} (h : X.K = K) : MtR X "list.count" (rCntI K) := h ▸ mt_lcount
section
variable {K : PySem.W.Frag} {Γ : Sl} {m : Mem} {Q : S → Mem → Prop} {te : TE}
def rdO : Option HO → Int × Int
  | some (HO.tup [V.int i, V.int j]) => (i, j)
  | _ => (0, 0)
def rdP (F : Hp) : V → Int × Int
  | .ref t => rdO (F t)
  | _ => (0, 0)
theorem rd_pairs {F : Hp} : ∀ {vs : List V} {ps : List (Int × Int)}, DqAll K F vs (ps.map dII) → vs.map (rdP F) = ps ∧ ∀ x ∈ vs, ∃ t, x = V.ref t ∧ F t = some (.tup [.int (rdP F x).1, .int (rdP F x).2])
  | _, [], h => by
    have h : DqAll K F _ [] := h
    cases h
    exact ⟨rfl, fun x hx => nomatch hx⟩
  | _, p :: ps, h => by
    have h : DqAll K F _ (dII p :: ps.map dII) := h
    cases h with
    | cons h1 h2 =>
      obtain ⟨e2, e3⟩ := rd_pairs h2
      obtain ⟨a, xs, rfl, ha, hx⟩ := dp_tupH h1
      cases hx with
      | cons x1 hx =>
        cases hx with
        | cons x2 hx =>
          cases hx; cases x1; cases x2
          have e : rdP F (.ref a) = p := by show rdO (F a) = p; rw [ha]; rfl
          refine ⟨by rw [List.map_cons, e, e2], fun q hq => ?_⟩
          rcases List.mem_cons.mp hq with rfl | hq
          · exact ⟨a, rfl, by rw [e]; exact ha⟩
          · exact e3 q hq
theorem pairs_rd {F : Hp} : ∀ {vs : List V}, (∀ x ∈ vs, ∃ t, x = V.ref t ∧ F t = some (.tup [.int (rdP F x).1, .int (rdP F x).2])) → DqAll K F vs ((vs.map (rdP F)).map dII)
  | [], _ => .nil
  | x :: vs, h => by
    obtain ⟨t, e, h2⟩ := h x List.mem_cons_self
    refine .cons ?_ (pairs_rd fun y hy => h y (List.mem_cons_of_mem _ hy))
    rw [e] at h2 ⊢
    exact Dq.tup h2 (.cons (.int _) (.cons (.int _) .nil))
abbrev LexP (zs : List (Int × Int)) : Prop := zs.Pairwise fun p q => p.1 < q.1 ∨ (p.1 = q.1 ∧ p.2 ≤ q.2)
theorem sorted_iis {ps : List (Int × Int)} (q : ∀ zs : List (Int × Int), zs.Perm ps → LexP zs → Q (.d (.list (zs.map dII))) m) : LB K (rSortedPO K) [.d (.list (ps.map dII))] m Q := fun vs F R H Q' a c k => by
  cases a with
  | cons a b =>
    cases b
    obtain ⟨p, vs, rfl, h1, h2⟩ := dp_list a
    obtain ⟨e2, e3⟩ := rd_pairs h2
    refine ⟨p, vs, rdP F, rfl, (cn_sub c).seq h1, fun x hx => ?_, fun ys l h3 h4 hl => ?_⟩
    · obtain ⟨t, e, h⟩ := e3 x hx
      exact ⟨t, e, cn_sub c _ _ h⟩
    · refine new_D c hl (pairs_rd fun x hx => e3 x (h4.perm.mem_iff.mp hx)) k (q _ ?_ ?_)
      · rw [← e2]; exact h4.perm.map _
      · refine List.pairwise_map.mpr (List.Pairwise.imp (fun {x y} h => ?_) h3)
        have := SrtO.lexB_no.mp h
        omega
theorem cnt_l {ns : List Int} {k : Int} (q : Q (.d (.int (ns.count k : Nat))) m) : LM K (rCntI K) (.d (.list (ns.map PyData.int))) [.d (.int k)] m Q := fun v vs F R H Q' a b c kk => by
  obtain ⟨p, ws, rfl, h1, h2⟩ := dp_list a
  obtain ⟨u, rfl, ru⟩ := lm1 b
  cases ru
  rw [ints_of h2] at h1
  exact ⟨p, ns, k, rfl, rfl, (cn_sub c).seq h1, kk _ (.d (.int (ns.count k : Nat))) F m H (Same.refl F) c (Dq.int _) q⟩
theorem in_true {bs : List Bool} (q : Q (.d (.bool (bs.any id))) m) : LO K (rINS K) (.d (.bool true)) (.d (.list (bs.map PyData.bool))) m Q :=
  in_d (sh_ok (sh_bool (n := 1))) (sh_ok (sh_list (n := 0) fun d hd => by
    obtain ⟨b, _, rfl⟩ := List.mem_map.mp hd
    exact sh_bool)) (by
    have e : ((bs.map PyData.bool).any fun z => PyData.eqv z (.bool true)) = bs.any id := by
      rw [List.any_map]
      congr 1
      funext b
      cases b <;> rfl
    rw [e]; exact q)
theorem eq_ints {a b : List Int} (q : Q (.d (.bool (decide (a = b)))) m) : LO K (rEQ K) (.d (.list (a.map PyData.int))) (.d (.list (b.map PyData.int))) m Q :=
  eq_no (n := 1) (k := 1) (c := decide (a = b)) ⟨fun h => by rw [of_decide_eq_true h], fun h => decide_eq_true (dI_inj h)⟩ sh_dI sh_dI nb_dI nb_dI q
end
end DL

open PySem PySem.Spec PyProof.Rows L2
namespace DL
/-! ### list(reversed(range(n))); slices of tuples -/
section
variable {prog : Program} {w : World} {A : Around} {E : Value → Shared → Prop} {s : Shared}
theorem call_rit_hint {it : Addr} {x n c : Int} {Q : Value → Shared → Prop} (hit : IsRangeIter s.heap it x n c) (h : Q (.int n s.toks) { s with toks := s.toks + 1 }) :
    wpAny (model prog w) A (call (.builtin "range_iterator.__length_hint__") [.ref it]) Q E s := by
  have hT : s.TypeIs (.ref it) "range_iterator" := ⟨_, hit, rfl⟩
  refine wpAny_call_entry PySem.F.slot_range_iterator_length_hint hT PySem.F.entry_range_iterator_length_hint ?_ (PySem.F.args_range_iterator_length_hint_1 _)
  show wpAny _ _ (field (.ref it) 1 >>= _) _ _ s
  refine wpAny_bind (wpAny_field hit rfl (x := rawInt n) rfl ?_)
  obtain ⟨hp, g, d, tk, os⟩ := s
  unfold rawInt
  wp_walk
  exact ⟨_, rfl, h⟩
theorem call_list_rit {it : Addr} {a c : Int} {n : Nat} {Q : Value → Shared → Prop} (hh : A.handled = none) (hit : IsRangeIter s.heap it a n c) (hn : n ≤ sizeLine)
    (hQ : ∀ (h' : Heap) (tk : Nat) (acc : Array Value) (cc : Nat), (∀ b o, b ≠ it → s.heap.get? b = some o → h'.get? b = some o) → ItemsOf (fun i v => ∃ t, v = .int (a + i * c) t) acc n →
      h'.get? s.heap.objs.size = some { cls := .type "list", dict := none, data := .seq acc cc, slots := #[] } → Q (.ref s.heap.objs.size) { s with heap := h', toks := tk }) :
    wpAny (model prog w) A (call (.type "list") [.ref it]) Q E s := by
  have hSi : s.heap.objs.size ≠ it := Nat.ne_of_gt (Heap.lt_size hit)
  have hSf : s.heap.objs.size ∉ [it] := by simp only [List.mem_cons, List.not_mem_nil, or_false]; exact hSi
  refine callType_codes (Q₁ := fun obj s₁ => obj = .ref s.heap.objs.size ∧ s₁ = { s with heap := s.heap.push { cls := .type "list", data := .seq #[] } }) PySem.F.called_list (PySem.F.typeCall_list_1 _) PySem.F.entry_list_init
    (code_list_new _ ⟨rfl, rfl⟩) fun obj s₁ h₁ => ?_
  obtain ⟨rfl, rfl⟩ := h₁
  have hS : (s.heap.push { cls := .type "list", data := .seq #[] }).get? s.heap.objs.size = some { cls := .type "list", data := .seq #[] } := Heap.get?_push_size _ rfl
  refine ⟨⟨_, hS, rfl⟩, PySem.F.args_list_init_2 _ _, ?_⟩
  show wpAny _ A.in1.in1 (do let old ← Builtin.List.listItems (.ref s.heap.objs.size); Builtin.List.listUpdate (.ref s.heap.objs.size) (fun _ => #[]); letGo old.toList.reverse; Builtin.List.listExtendWith (.ref s.heap.objs.size) (.ref it) .none) _ _ _
  refine wpAny_bind ?_
  unfold Builtin.List.listItems
  refine wpAny_bind (wpAny_seqItems hS rfl (wpAny_pure ?_))
  show wpAny _ A.in1.in1 (updateSeq s.heap.objs.size (fun _ => #[]) >>= fun _ => letGo (#[] : Array Value).toList.reverse >>= fun _ => Builtin.List.listExtendWith (.ref s.heap.objs.size) (.ref it) .none) _ _ _
  refine wpAny_bind (wpAny_updateSeq hS rfl ?_)
  have hS2 := Heap.get?_update_self (Obj.mapSeq (fun _ => (#[] : Array Value))) hS rfl
  refine wpAny_bind (wpAny_letGo ?_)
  have up : ∀ b o, s.heap.get? b = some o → ((s.heap.push { cls := .type "list", data := .seq #[] }).update s.heap.objs.size (Obj.mapSeq (fun _ => (#[] : Array Value)))).get? b = some o := fun b o e =>
    (Heap.get?_update_other _ _ (Ne.symm (Nat.ne_of_lt (Heap.lt_size e)))).trans (Heap.get?_push_of_some _ e)
  generalize hg : (s.heap.push { cls := .type "list", data := .seq #[] }).update s.heap.objs.size (Obj.mapSeq (fun _ => (#[] : Array Value))) = g at *
  have hit1 : IsRangeIter g it a n c := up _ _ hit
  have hT : ({ s with heap := g } : Shared).TypeIs (.ref it) "range_iterator" := ⟨_, hit1, rfl⟩
  have h1 : Builtin.List.listSameRef (.ref s.heap.objs.size) (.ref it) = false := by simp [Builtin.List.listSameRef, hSi]
  have W := (Walks.range (prog := prog) (w := w) (A := A.in1.in1) hh it a c n).toS
  unfold Builtin.List.listExtendWith
  refine wpAny_bind (wpAny_typeOf hT ?_)
  rw [if_neg (by rw [h1]; decide)]
  refine wpAny_bind (wpAny_pyIter_rangeiter (s := { s with heap := g }) hit1 ?_)
  refine wpAny_bind (wpAny_holding ?_)
  unfold Builtin.List.listLengthHint
  refine wpAny_bind (wpAny_specialOf hT PySem.F.nolen_ra ?_)
  show wpAny _ A.in1.in1 (specialOf (Value.ref it) (Str.ofString "__length_hint__") >>= _) _ _ _
  refine wpAny_bind (wpAny_specialOf hT PySem.F.hint_ra ?_)
  generalize hid : ("range_iterator.__length_hint__" : String) = id0
  wp_delta
  rw [show splitId id0 = some ("range_iterator", "__length_hint__") from by subst hid; decide +kernel]
  subst hid
  refine wpAny_bind (wpAny_isInstance (b := true) hT (by rw [isSubtype_type]; kernel_rfl) ?_)
  show wpAny _ A.in1.in1 (call (.builtin "range_iterator.__length_hint__") [.ref it] >>= _) _ _ _
  refine wpAny_bind (call_rit_hint (s := { s with heap := g }) hit1 ?_)
  refine wpAny_bind (m := asInt? (.int (n : Int) s.toks)) (wpAny_pure ?_)
  have htl : Builtin.List.listTooLong ((n : Int).toNat) = false := by
    unfold Builtin.List.listTooLong
    rw [Int.toNat_natCast]
    exact decide_eq_false (by omega)
  dsimp only
  rw [if_neg (by rw [htl]; decide)]
  refine wpAny_pure ?_
  rw [if_neg (by decide)]
  have e0 : IsRangeIter g it (a + ((0 : Nat) : Int) * c) ((n : Int) - ((0 : Nat) : Int)) c := by
    rw [show a + ((0 : Nat) : Int) * c = a by simp, show (n : Int) - ((0 : Nat) : Int) = n by simp]
    exact hit1
  refine wpAny_pure ⟨plainId_quiet PySem.F.plain_extend_loop _, codeAny_extend_loopS W hn _ hSf _ n 0 _ _ _ rfl (Nat.zero_le _) e0 hS2 (ItemsOf.nil _) fun s' acc' c' hm hS' hacc => ?_⟩
  rw [Moved.eq_with hm]
  refine ⟨rfl, hQ s'.heap s'.toks acc' c' (fun b o hb e => hm.heap b o (fun hmem => ?_) (up b o e)) hacc hS'⟩
  rcases List.mem_cons.mp hmem with e' | hmem
  · exact absurd (Heap.lt_size e) (by rw [e']; exact Nat.lt_irrefl _)
  · exact hb (List.mem_singleton.mp hmem)
end
def tListRevR (tr : L2.St → Hp → (Int → Int → Hp → Prop) → Prop) : TE := fun σ H Q => tr σ H fun a b H1 => RgOk a b ∧ ∀ q, H1 q = none → Q (.ref q) (upd H1 q (.lst ((List.range (b - a).toNat).map fun i => V.int (a + (((b - a).toNat : Nat) : Int) - 1 + (i : Nat) * (-1)))))
theorem vals_rrg {a : Int} {n : Nat} {acc : Array Value} (h : ItemsOf (fun i v => ∃ t, v = .int (a + i * (-1)) t) acc n) : Vals ((List.range n).map fun i => V.int (a + (i : Nat) * (-1))) acc.toList := (by
  have e : acc.toList.length = n := by rw [Array.length_toList]; exact h.1
  rw [← e]
  refine vals_of_get acc.toList _ fun j u hj => ?_
  obtain ⟨t, rfl⟩ := h.2 j u (by rw [← hj, Array.getElem?_toList])
  exact ⟨t, rfl⟩)
section
variable {X : Cx}
theorem pe_listRevR {e : Expr} {tr : L2.St → Hp → (Int → Int → Hp → Prop) → Prop} {p p2 pos pos2 : Pos} (hc : X.calm = true) (hg : Gl X "list") (hm : X.mg "list" = none) (hg2 : Gl X "reversed") (hm2 : X.mg "reversed" = none) (he : PRg X e tr)
    (hs : starEach [e] X.env = (false, eval e X.env) :: starEach [] X.env := by rfl)
    (hs2 : starEach [.Call (.Name "reversed" p2) [e] [] pos2] X.env = (false, eval (.Call (.Name "reversed" p2) [e] [] pos2) X.env) :: starEach [] X.env := by rfl) :
    PE X (.Call (.Name "list" p) [.Call (.Name "reversed" p2) [e] [] pos2] [] pos) (tListRevR tr) := by
  refine ⟨fun pins s σ H Q I h => ?_⟩
  refine Call_ (ld_blt I hg hm boot_list (PyProof.Rows.callWith_type1 (PyProof.Rows.args_cons (Call_ (ld_blt I hg2 hm2 PyProof.Rows.boot_reversed (PyProof.Rows.callWith_type1 (PyProof.Rows.args_cons (thn (he pins s σ H _ I h) fun u s1 hx => PyProof.Rows.args_nil ?_) hs) hs rfl))) hs2) hs2 rfl))
  obtain ⟨r, a, b, t, w1, v, H1, eu, hr, I1, ⟨b1, b2, b3, b4, b5⟩, q⟩ := hx
  subst eu
  have hn : Builtin.Range.rangeSize a b 1 = (((b - a).toNat : Nat) : Int) := rangeSize_nat a b
  refine call_reversed_range hr (smallRev_one b1 b2 b3 b4) (PyProof.Rows.args_nil ?_)
  have k0 : ∀ b' o, s1.heap.get? b' = some o → (s1.heap.push (rngRevObj a b 1)).get? b' = some o := fun b' o e => Heap.get?_push_of_some _ e
  have I2 : Inv X pins σ H1 { s1 with heap := s1.heap.push (rngRevObj a b 1) } := I1.kept (t' := s1.toks) k0
  obtain ⟨f0, f1, f2, f3, f4, f5⟩ := I1.fpOk (H' := H1) (b := s1.heap.objs.size) (Nat.le_refl _) (I1.hok.fresh (Nat.le_refl _))
  have hsz : (b - a).toNat ≤ sizeLine := by rw [sizeLine_eq]; omega
  have hri : IsRangeIter (s1.heap.push (rngRevObj a b 1)) s1.heap.objs.size (a + (((b - a).toNat : Nat) : Int) - 1) (((b - a).toNat : Nat) : Int) (-1) := by
    have e1 : a + (((b - a).toNat : Nat) : Int) - 1 = a + (Builtin.Range.rangeSize a b 1 - 1) * 1 := by rw [hn]; omega
    show IsRangeIter _ _ _ _ _
    rw [e1, ← hn]
    exact Heap.get?_push_size _ rfl
  refine call_list_rit (s := { s1 with heap := s1.heap.push (rngRevObj a b 1) }) (I1.ok.hd hc) hri hsz fun h' tk acc c hk hi hS => ?_
  have hne2 : (s1.heap.push (rngRevObj a b 1)).objs.size ≠ s1.heap.objs.size := by rw [Heap.size_push]; exact Nat.succ_ne_self _
  have hfr : H1 (s1.heap.push (rngRevObj a b 1)).objs.size = none := I2.hok.fresh (Nat.le_refl _)
  have I3 : Inv X pins σ (upd H1 (s1.heap.push (rngRevObj a b 1)).objs.size (.lst ((List.range (b - a).toNat).map fun i => V.int (a + (((b - a).toNat : Nat) : Int) - 1 + (i : Nat) * (-1))))) { s1 with heap := (s1.heap.push (rngRevObj a b 1)).push { cls := .type "list", dict := none, data := .seq acc c, slots := #[] }, toks := s1.toks } :=
    I2.laid (t' := s1.toks) (fun b' o e => Heap.get?_push_of_some _ e) (Nat.le_refl _) (show ObjOk X.prog X.w _ _ _ (.lst _) from ⟨by rw [List.length_map, List.length_range]; exact hsz, acc.toList, c, vals_rrg hi, by rw [Array.toArray_toList]; exact Heap.get?_push_size _ rfl⟩)
  have J : Inv X pins σ (upd H1 (s1.heap.push (rngRevObj a b 1)).objs.size (.lst ((List.range (b - a).toNat).map fun i => V.int (a + (((b - a).toNat : Nat) : Int) - 1 + (i : Nat) * (-1))))) { s1 with heap := h', toks := tk } := by
    refine I3.turned (t' := tk) (fun b' o hb e => ?_) (by rw [upd_ne hne2.symm]; exact f0) f1 f3 f4 f5
    rcases Heap.get?_push_cases e with ⟨rfl, rfl⟩ | e
    · exact hS
    · exact hk b' o hb e
  exact ⟨.ref _, _, J, rfl, q _ hfr⟩
end
section
variable {K : PySem.W.Frag} {Γ : Sl} {m : Mem} {Q : S → Mem → Prop} {te : TE}
theorem dqa_ints {F : Hp} : ∀ {ns : List Int}, DqAll K F (ns.map V.int) (ns.map PyData.int)
  | [] => .nil
  | n :: ns => .cons (Dq.int n) dqa_ints
/-- list(reversed(range(n))) -/
theorem ar_listRevR1 (h : AR K te Γ m fun x m1 => ∃ n : Nat, x = .d (.int (n : Nat)) ∧ n ≤ 1000000 ∧ Q (.d (.list ((List.range n).reverse.map fun (k : Nat) => PyData.int k))) m1) : AR K (tListRevR (tRg1 te)) Γ m Q := fun σ F R H Q' g c k =>
  h σ F R H _ g c fun v x F1 m1 H1 e1 c1 r1 q1 => by
    obtain ⟨n, rfl, hn, q⟩ := q1
    cases r1
    refine ⟨n, rfl, ⟨by omega, by omega, by omega, by omega, by omega⟩, fun l hl => ?_⟩
    have e : ((List.range ((n : Int) - 0).toNat).map fun i => V.int (0 + ((((n : Int) - 0).toNat : Nat) : Int) - 1 + (i : Nat) * (-1))) = ((List.range n).reverse.map fun (k : Nat) => (k : Int)).map V.int := by
      have e0 : ((n : Int) - 0).toNat = n := by omega
      rw [e0]
      refine List.ext_getElem (by simp) fun i h1 h2 => ?_
      simp only [List.length_map, List.length_range] at h1
      simp only [List.getElem_map, List.getElem_range, List.getElem_reverse, List.length_range]
      congr 1
      omega
    rw [e]
    have q2 : Q (.d (.list (((List.range n).reverse.map fun (k : Nat) => (k : Int)).map PyData.int))) m1 := by rw [List.map_map]; exact q
    exact new_D c1 hl dqa_ints (fun w z F3 m3 H3 e3 c3 r3 q3 => k w z F3 m3 H3 (e1.trans e3) c3 r3 q3) q2
theorem sl_t {ds : List PyData} {lo hi : Option Int} (hne : ¬ (HT.sIx ds.length 0 lo = 0 ∧ HT.sIx ds.length ds.length hi = ds.length)) (q : Q (.d (.tuple (cutL ds lo hi))) m) : LS K (rSL K) (.d (.tuple ds)) lo hi m Q := fun v F R H Q' a c k => by
  obtain ⟨p, vs, rfl, h1, h2⟩ := dp_tup a
  exact .inr (.inl ⟨p, vs, rfl, same_sqt (cn_sub c) h1, by rw [dpa_len h2]; exact hne, fun l hl => new_T c hl (dqa_cut h2) k q⟩)
end
theorem pe_listRevRK {K : PySem.W.Frag} {X : Cx} {e : Expr} {tr : L2.St → Hp → (Int → Int → Hp → Prop) → Prop} {p p2 pos pos2 : Pos} (h : X.K = K) (hc : X.calm = true) (hg : Gl X "list") (hm : X.mg "list" = none) (hg2 : Gl X "reversed") (hm2 : X.mg "reversed" = none) (he : PRg X e tr)
    (hs : starEach [e] X.env = (false, eval e X.env) :: starEach [] X.env := by rfl)
    (hs2 : starEach [.Call (.Name "reversed" p2) [e] [] pos2] X.env = (false, eval (.Call (.Name "reversed" p2) [e] [] pos2) X.env) :: starEach [] X.env := by rfl) :
    PE X (.Call (.Name "list" p) [.Call (.Name "reversed" p2) [e] [] pos2] [] pos) (tListRevR tr) := pe_listRevR hc hg hm hg2 hm2 he hs hs2
end DL

/-! zip of a tuple and a list (mkzipy.py turns DLZ round) -/
namespace DL
section
set_option maxHeartbeats 1000000
open PySem
open PySem.Sem (wp)
section
variable {prog : Program} {w : World} {A : Around} {E : Value → Shared → Prop} {s : Shared}
theorem zipY_next_item {z TI TO i1 i2 l1 l2 : Addr} {k1 k2 : Nat} {xs ys : Array Value} {x y a b : Value} {Q : Value → Shared → Prop} (D : ZipApart z TI TO i1 i2 l1 l2)
    (hz : IsZip s.heap z TI TO .none) (hTI : IsPair s.heap TI (.ref i1) (.ref i2)) (hTO : IsPair s.heap TO a b)
    (h1 : s.heap.IsTupleIter i1 l1 k1) (h2 : s.heap.IsListIter i2 l2 k2) (hl1 : s.heap.IsTuple l1 xs) (hl2 : s.heap.IsList l2 ys) (hx : xs[k1]? = some x) (hy : ys[k2]? = some y)
    (hQ : ∀ h', IsZip h' z TI TO (rawInt s.heap.objs.size) → IsPair h' TO x y → h'.IsTupleIter i1 l1 (k1 + 1) → h'.IsListIter i2 l2 (k2 + 1) → IsPair h' s.heap.objs.size x y → h'.objs.size = s.heap.objs.size + 1 →
      (∀ c o, c ≠ z → c ≠ TO → c ≠ i1 → c ≠ i2 → s.heap.get? c = some o → h'.get? c = some o) → Q (.ref s.heap.objs.size) { s with heap := h' }) :
    wpAny (model prog w) A (Builtin.«zip.__next__» ⟨[.ref z], []⟩) (fun fin s' => ∃ v, fin = .done (.ret v) ∧ Q v s') E s := by
  show wpAny _ _ (field (.ref z) 2 >>= _) _ _ _
  refine wpAny_bind (wpAny_field hz rfl (x := .bool false) rfl ?_)
  show wpAny _ _ (field (.ref z) 3 >>= _) _ _ _
  refine wpAny_bind (wpAny_field hz rfl (x := .ref TI) rfl ?_)
  refine wpAny_bind (wpAny_seqItems hTI rfl ?_)
  show wpAny _ _ (Builtin.SmallTypes.ownedTupleIsFree (.ref z) >>= _) _ _ _
  refine wpAny_bind ?_
  unfold Builtin.SmallTypes.ownedTupleIsFree
  refine wpAny_bind (wpAny_field hz rfl (x := .none) rfl (wpAny_pure ?_))
  simp only [if_true]
  refine wpAny_bind (wpAny_rule ?_)
  refine wpAny_bind (wpAny_field hz rfl (x := .ref TO) rfl ?_)
  refine wpAny_bind (wpAny_setField_rec hz (by simp) fun h₁ hz₁ hs₁ => ?_)
  replace hz₁ : IsZip h₁ z TI TO .ellipsis := hz₁
  refine wpAny_bind ?_
  simp only [List.zipIdx_cons, List.zipIdx_nil, List.forIn_cons, List.forIn_nil]

  refine wpAny_bind (wpAny_bind (wpAny_onRaise ?_))
  show wpAny _ _ (Builtin.SmallTypes.nextOf (.ref i1) >>= _) _ _ _
  refine wpAny_bind (RZ.nextOf_tuple_item (h1.extBut hs₁.extBut D.i1z) (hl1.extBut hs₁.extBut D.l1z) hx fun h₂ h1₂ hs₂ => wpAny_pure ?_)
  have hTO₂ : IsPair h₂ TO a b := hs₂.extBut _ _ D.TOi1 (hs₁.extBut _ _ D.TOz hTO)
  refine wpAny_bind (wpAny_seqItems hTO₂ rfl ?_)
  refine wpAny_bind (wpAny_updateSeq_pair hTO₂ fun h₃ hTO₃ hs₃ => ?_)
  replace hTO₃ : IsPair h₃ TO x b := hTO₃
  refine wpAny_bind (wpAny_letGo (wpAny_pure ?_))

  refine wpAny_bind (wpAny_bind (wpAny_onRaise ?_))
  show wpAny _ _ (Builtin.SmallTypes.nextOf (.ref i2) >>= _) _ _ _
  refine wpAny_bind (wpAny_nextOf_list_item (((h2.extBut hs₁.extBut D.i2z).extBut hs₂.extBut D.i12.symm).extBut hs₃.extBut D.TOi2.symm)
    (((hl2.extBut hs₁.extBut D.l2z).extBut hs₂.extBut D.l2i1).extBut hs₃.extBut D.l2TO) hy fun h₄ h2₄ hs₄ => wpAny_pure ?_)
  have hTO₄ : IsPair h₄ TO x b := hs₄.extBut _ _ D.TOi2 hTO₃
  refine wpAny_bind (wpAny_seqItems hTO₄ rfl ?_)
  refine wpAny_bind (wpAny_updateSeq_pair hTO₄ fun h₅ hTO₅ hs₅ => ?_)
  replace hTO₅ : IsPair h₅ TO x y := hTO₅
  refine wpAny_bind (wpAny_letGo (wpAny_pure (wpAny_pure ?_)))

  refine wpAny_bind (wpAny_seqItems hTO₅ rfl ?_)
  refine wpAny_bind (wpAny_newTuple ?_)
  have hsz : h₅.objs.size = s.heap.objs.size := by rw [hs₅.1, hs₄.1, hs₃.1, hs₂.1, hs₁.1]
  have hz₅ : IsZip h₅ z TI TO .ellipsis := hs₅.extBut _ _ D.TOz.symm (hs₄.extBut _ _ D.i2z.symm (hs₃.extBut _ _ D.TOz.symm (hs₂.extBut _ _ D.i1z.symm hz₁)))
  have hk₅ : ∀ c o, c ≠ z → c ≠ TO → c ≠ i1 → c ≠ i2 → s.heap.get? c = some o → h₅.get? c = some o := fun c o c1 c2 c3 c4 e =>
    hs₅.extBut _ _ c2 (hs₄.extBut _ _ c4 (hs₃.extBut _ _ c2 (hs₂.extBut _ _ c3 (hs₁.extBut _ _ c1 e))))
  have h1₅ : h₅.IsTupleIter i1 l1 (k1 + 1) := ((h1₂.extBut hs₃.extBut D.TOi1.symm).extBut hs₄.extBut D.i12).extBut hs₅.extBut D.TOi1.symm
  have h2₅ : h₅.IsListIter i2 l2 (k2 + 1) := h2₄.extBut hs₅.extBut D.TOi2.symm
  have hzlt : z < h₅.objs.size := Heap.lt_size hz₅
  have hTOlt : TO < h₅.objs.size := Heap.lt_size hTO₅
  have hi1lt : i1 < h₅.objs.size := by obtain ⟨_, e, _⟩ := h1₅; exact Heap.lt_size e
  have hi2lt : i2 < h₅.objs.size := by obtain ⟨_, e, _⟩ := h2₅; exact Heap.lt_size e
  show wpAny _ _ (Builtin.SmallTypes.ownedTupleHandOut (.ref z) (.ref h₅.objs.size) >>= _) _ _ _
  refine wpAny_bind ?_
  unfold Builtin.SmallTypes.ownedTupleHandOut
  have hz₆ : IsZip (h₅.push { cls := .type "tuple", data := .seq #[x, y] }) z TI TO .ellipsis := Heap.get?_push_of_some _ hz₅
  refine wpAny_bind (wpAny_setField_rec hz₆ (by simp) fun h₇ hz₇ hs₇ => ?_)
  replace hz₇ : IsZip h₇ z TI TO (rawInt h₅.objs.size) := hz₇
  refine wpAny_setField_rec hz₇ (by simp) fun h₈ hz₈ hs₈ => ?_
  replace hz₈ : IsZip h₈ z TI TO (rawInt h₅.objs.size) := hz₈
  have up : ∀ c o, c ≠ z → h₅.get? c = some o → h₈.get? c = some o := fun c o c1 e => hs₈.extBut _ _ c1 (hs₇.extBut _ _ c1 (Heap.get?_push_of_some _ e))
  have hT₈ : IsPair h₈ h₅.objs.size x y := hs₈.extBut _ _ (Nat.ne_of_gt hzlt) (hs₇.extBut _ _ (Nat.ne_of_gt hzlt) (Heap.get?_push_size _ rfl))
  have hz8 : h₈.objs.size = h₅.objs.size + 1 := by rw [hs₈.1, hs₇.1, Heap.size_push]
  rw [hsz] at hz₈ hT₈ hz8
  refine wpAny_pure ⟨_, rfl, ?_⟩
  show Q (.ref h₅.objs.size) _
  rw [hsz]
  exact hQ h₈ hz₈ (up _ _ D.TOz hTO₅) (h1₅.at fun o e => up _ o D.i1z e) (h2₅.at fun o e => up _ o D.i2z e) hT₈ hz8 fun c o c1 c2 c3 c4 e => up c o c1 (hk₅ c o c1 c2 c3 c4 e)

theorem zipY_next_end {z TI TO i1 i2 l1 l2 : Addr} {k1 k2 : Nat} {xs ys : Array Value} {a b : Value} {Q : Fin → Shared → Prop} (hh : A.handled = none) (D : ZipApart z TI TO i1 i2 l1 l2)
    (hz : IsZip s.heap z TI TO .none) (hTI : IsPair s.heap TI (.ref i1) (.ref i2)) (hTO : IsPair s.heap TO a b)
    (h1 : s.heap.IsTupleIter i1 l1 k1) (h2 : s.heap.IsListIter i2 l2 k2) (hl1 : s.heap.IsTuple l1 xs) (hl2 : s.heap.IsList l2 ys) (hend : xs[k1]? = none ∨ ys[k2]? = none)
    (hE : ∀ h' e, (∀ c o, c ≠ z → c ≠ TO → c ≠ i1 → c ≠ i2 → s.heap.get? c = some o → h'.get? c = some o) → (∃ o, h'.get? e = some o ∧ o.cls = .type "StopIteration") → E (.ref e) { s with heap := h' }) :
    wpAny (model prog w) A (Builtin.«zip.__next__» ⟨[.ref z], []⟩) Q E s := by
  show wpAny _ _ (field (.ref z) 2 >>= _) _ _ _
  refine wpAny_bind (wpAny_field hz rfl (x := .bool false) rfl ?_)
  show wpAny _ _ (field (.ref z) 3 >>= _) _ _ _
  refine wpAny_bind (wpAny_field hz rfl (x := .ref TI) rfl ?_)
  refine wpAny_bind (wpAny_seqItems hTI rfl ?_)
  show wpAny _ _ (Builtin.SmallTypes.ownedTupleIsFree (.ref z) >>= _) _ _ _
  refine wpAny_bind ?_
  unfold Builtin.SmallTypes.ownedTupleIsFree
  refine wpAny_bind (wpAny_field hz rfl (x := .none) rfl (wpAny_pure ?_))
  simp only [if_true]
  refine wpAny_bind (wpAny_rule ?_)
  refine wpAny_bind (wpAny_field hz rfl (x := .ref TO) rfl ?_)
  refine wpAny_bind (wpAny_setField_rec hz (by simp) fun h₁ hz₁ hs₁ => ?_)
  replace hz₁ : IsZip h₁ z TI TO .ellipsis := hz₁
  refine wpAny_bind ?_
  simp only [List.zipIdx_cons, List.zipIdx_nil, List.forIn_cons, List.forIn_nil]
  refine wpAny_bind (wpAny_bind (wpAny_onRaise ?_))
  show wpAny _ _ (Builtin.SmallTypes.nextOf (.ref i1) >>= _) _ _ _
  cases hx : xs[k1]? with
  | none =>
    refine wpAny_bind (RZ.nextOf_tuple_end hh (h1.extBut hs₁.extBut D.i1z) (hl1.extBut hs₁.extBut D.l1z) hx fun h₂ e hs₂ he => ?_)
    obtain ⟨oe, hoe, hce⟩ := he
    have hz₂ : IsZip h₂ z TI TO .ellipsis := hs₂ _ _ D.i1z.symm hz₁
    have hez : e ≠ z := fun x => by subst x; rw [hz₂] at hoe; cases hoe; simp at hce
    refine wpAny_setField_rec hz₂ (by simp) fun h₃ _ hs₃ => hE h₃ e (fun c o c1 _ c3 _ x => hs₃.extBut _ _ c1 (hs₂ _ _ c3 (hs₁.extBut _ _ c1 x))) ⟨oe, hs₃.extBut _ _ hez hoe, hce⟩
  | some x =>
    have hy : ys[k2]? = none := by rcases hend with h | h; rw [hx] at h; cases h; exact h
    refine wpAny_bind (RZ.nextOf_tuple_item (h1.extBut hs₁.extBut D.i1z) (hl1.extBut hs₁.extBut D.l1z) hx fun h₂ h1₂ hs₂ => wpAny_pure ?_)
    have hTO₂ : IsPair h₂ TO a b := hs₂.extBut _ _ D.TOi1 (hs₁.extBut _ _ D.TOz hTO)
    refine wpAny_bind (wpAny_seqItems hTO₂ rfl ?_)
    refine wpAny_bind (wpAny_updateSeq_pair hTO₂ fun h₃ hTO₃ hs₃ => ?_)
    refine wpAny_bind (wpAny_letGo (wpAny_pure ?_))
    refine wpAny_bind (wpAny_bind (wpAny_onRaise ?_))
    show wpAny _ _ (Builtin.SmallTypes.nextOf (.ref i2) >>= _) _ _ _
    refine wpAny_bind (wpAny_nextOf_list_end hh (((h2.extBut hs₁.extBut D.i2z).extBut hs₂.extBut D.i12.symm).extBut hs₃.extBut D.TOi2.symm)
      (((hl2.extBut hs₁.extBut D.l2z).extBut hs₂.extBut D.l2i1).extBut hs₃.extBut D.l2TO) hy fun h₄ e hs₄ he => ?_)
    obtain ⟨oe, hoe, hce⟩ := he
    have hz₄ : IsZip h₄ z TI TO .ellipsis := hs₄ _ _ D.i2z.symm (hs₃.extBut _ _ D.TOz.symm (hs₂.extBut _ _ D.i1z.symm hz₁))
    have hez : e ≠ z := fun x => by subst x; rw [hz₄] at hoe; cases hoe; simp at hce
    refine wpAny_setField_rec hz₄ (by simp) fun h₅ _ hs₅ => hE h₅ e (fun c o c1 c2 c3 c4 x => hs₅.extBut _ _ c1 (hs₄ _ _ c4 (hs₃.extBut _ _ c2 (hs₂.extBut _ _ c3 (hs₁.extBut _ _ c1 x))))) ⟨oe, hs₅.extBut _ _ hez hoe, hce⟩

theorem pyNext_zipY_item {z TI TO i1 i2 l1 l2 : Addr} {k1 k2 : Nat} {xs ys : Array Value} {x y a b : Value} {Q : Option Value → Shared → Prop} (D : ZipApart z TI TO i1 i2 l1 l2)
    (hz : IsZip s.heap z TI TO .none) (hTI : IsPair s.heap TI (.ref i1) (.ref i2)) (hTO : IsPair s.heap TO a b)
    (h1 : s.heap.IsTupleIter i1 l1 k1) (h2 : s.heap.IsListIter i2 l2 k2) (hl1 : s.heap.IsTuple l1 xs) (hl2 : s.heap.IsList l2 ys) (hx : xs[k1]? = some x) (hy : ys[k2]? = some y)
    (hQ : ∀ h', IsZip h' z TI TO (rawInt s.heap.objs.size) → IsPair h' TO x y → h'.IsTupleIter i1 l1 (k1 + 1) → h'.IsListIter i2 l2 (k2 + 1) → IsPair h' s.heap.objs.size x y → h'.objs.size = s.heap.objs.size + 1 →
      (∀ c o, c ≠ z → c ≠ TO → c ≠ i1 → c ≠ i2 → s.heap.get? c = some o → h'.get? c = some o) → Q (some (.ref s.heap.objs.size)) { s with heap := h' }) :
    wpAny (model prog w) A (pyNext (.ref z)) Q E s := by
  have hT : s.TypeIs (.ref z) "zip" := ⟨_, hz, rfl⟩
  unfold pyNext
  exact wpAny_bind (wpAny_attempt (wpAny_callSpecial?_slot (name := Str.ofString "__next__") hT F.slot_zip_next
    (wpAny_call_entry F.slot_zip_next hT F.entry_zip_next
      (zipY_next_item D hz hTI hTO h1 h2 hl1 hl2 hx hy fun h' a1 a2 a3 a4 a5 a6 a7 => wpAny_pure (hQ h' a1 a2 a3 a4 a5 a6 a7)) (F.args_zip_next_1 _))))

theorem pyNext_zipY_end {z TI TO i1 i2 l1 l2 : Addr} {k1 k2 : Nat} {xs ys : Array Value} {a b : Value} {Q : Option Value → Shared → Prop} (hh : A.handled = none) (D : ZipApart z TI TO i1 i2 l1 l2)
    (hz : IsZip s.heap z TI TO .none) (hTI : IsPair s.heap TI (.ref i1) (.ref i2)) (hTO : IsPair s.heap TO a b)
    (h1 : s.heap.IsTupleIter i1 l1 k1) (h2 : s.heap.IsListIter i2 l2 k2) (hl1 : s.heap.IsTuple l1 xs) (hl2 : s.heap.IsList l2 ys) (hend : xs[k1]? = none ∨ ys[k2]? = none)
    (hQ : ∀ h', (∀ c o, c ≠ z → c ≠ TO → c ≠ i1 → c ≠ i2 → s.heap.get? c = some o → h'.get? c = some o) → Q none { s with heap := h' }) : wpAny (model prog w) A (pyNext (.ref z)) Q E s := by
  have hT : s.TypeIs (.ref z) "zip" := ⟨_, hz, rfl⟩
  unfold pyNext
  refine wpAny_bind (wpAny_attempt (wpAny_callSpecial?_slot (name := Str.ofString "__next__") hT F.slot_zip_next
    (wpAny_call_entry F.slot_zip_next hT F.entry_zip_next (zipY_next_end hh D hz hTI hTO h1 h2 hl1 hl2 hend fun h' e hk he => ?_) (F.args_zip_next_1 _))))
  obtain ⟨o, ho, hc⟩ := he
  refine wpAny_bind (wpAny_isInstance (T := "StopIteration") (b := true) ⟨o, ho, hc⟩ isSubtype_stop ?_)
  exact wpAny_pure (hQ _ hk)
end

abbrev zipYH1 (h : Heap) (l1 : Addr) : Heap := h.push { cls := .type "tuple_iterator", data := .fields #[.ref l1, .int 0 0] }
abbrev zipYH2 (h : Heap) (l1 l2 : Addr) : Heap := (zipYH1 h l1).push { cls := .type "list_iterator", data := .fields #[.ref l2, .int 0 0] }
abbrev zipYH3 (h : Heap) (l1 l2 : Addr) : Heap := (zipYH2 h l1 l2).push { cls := .type "tuple", data := .seq #[.ref h.objs.size, .ref (zipYH1 h l1).objs.size] }
abbrev zipYH4 (h : Heap) (l1 l2 : Addr) : Heap := (zipYH3 h l1 l2).push { cls := .type "tuple", data := .seq #[.none, .none] }
abbrev zipYH5 (h : Heap) (l1 l2 : Addr) : Heap := (zipYH4 h l1 l2).push { cls := .type "zip", data := .fields #[.none, .bool false, .bool false, .ref (zipYH2 h l1 l2).objs.size, .ref (zipYH3 h l1 l2).objs.size] }

theorem meets_zipY_new (l1 l2 : Addr) (xs ys : Array Value) :
    Meets (Builtin.«zip.__new__» ⟨[.type "zip", .ref l1, .ref l2], []⟩) (fun _ R s => s.heap.IsTuple l1 xs ∧ s.heap.IsList l2 ys ∧
      R (.ok (.ret (.ref (zipYH4 s.heap l1 l2).objs.size))) { s with heap := zipYH5 s.heap l1 l2 }) :=
  .of_wp fun prog w A R s h => by
    obtain ⟨hp, g, d, tk, os⟩ := s; obtain ⟨hl1, hl2, h⟩ := h
    have hsub := sub_zip
    have hL1 : Heap.IsTuple (Shared.heap ⟨hp, g, d, tk, os⟩) l1 xs := hl1
    have hL2 : Heap.IsList (Shared.heap ⟨hp.push { cls := .type "tuple_iterator", data := .fields #[.ref l1, .int 0 0] }, g, d, tk, os⟩) l2 ys := Heap.IsList.push hl2 _
    wp_walk using wpAny_pyIter_tuple hL1, wpAny_pyIter_list hL2
    exact ⟨_, rfl, h⟩

section
variable {prog : Program} {w : World} {A : Around} {E : Value → Shared → Prop} {s : Shared}

theorem call_zipY {l1 l2 : Addr} {xs ys : Array Value} {Q : Value → Shared → Prop} (hl1 : s.heap.IsTuple l1 xs) (hl2 : s.heap.IsList l2 ys)
    (h : ∀ h', IsZip h' (s.heap.objs.size + 4) (s.heap.objs.size + 2) (s.heap.objs.size + 3) .none → IsPair h' (s.heap.objs.size + 2) (.ref s.heap.objs.size) (.ref (s.heap.objs.size + 1)) →
      IsPair h' (s.heap.objs.size + 3) .none .none → h'.IsTupleIter s.heap.objs.size l1 0 → h'.IsListIter (s.heap.objs.size + 1) l2 0 → h'.objs.size = s.heap.objs.size + 5 →
      (∀ c o, s.heap.get? c = some o → h'.get? c = some o) → Q (.ref (s.heap.objs.size + 4)) { s with heap := h' }) :
    wpAny (model prog w) A (call (.type "zip") [.ref l1, .ref l2]) Q E s := by
  refine callType_new F.called_zip (by decide) (F.typeCall_zip_2 _ _) (F.newCall_zip_2 _ _) (fun obj => F.args_object_init_3 obj _ _) F.entry_zip_new
    (meets_zipY_new l1 l2 xs ys) ⟨hl1, hl2, ?_⟩
  have z1 : (zipYH1 s.heap l1).objs.size = s.heap.objs.size + 1 := Heap.size_push ..
  have z2 : (zipYH2 s.heap l1 l2).objs.size = s.heap.objs.size + 2 := by rw [Heap.size_push, z1]
  have z3 : (zipYH3 s.heap l1 l2).objs.size = s.heap.objs.size + 3 := by rw [Heap.size_push, z2]
  have z4 : (zipYH4 s.heap l1 l2).objs.size = s.heap.objs.size + 4 := by rw [Heap.size_push, z3]
  have z5 : (zipYH5 s.heap l1 l2).objs.size = s.heap.objs.size + 5 := by rw [Heap.size_push, z4]
  have g5 : (zipYH5 s.heap l1 l2).get? (zipYH4 s.heap l1 l2).objs.size = some _ := Heap.get?_push_size _ rfl
  have g4 : (zipYH5 s.heap l1 l2).get? (zipYH3 s.heap l1 l2).objs.size = some _ := Heap.get?_push_of_some _ (Heap.get?_push_size _ rfl)
  have g3 : (zipYH5 s.heap l1 l2).get? (zipYH2 s.heap l1 l2).objs.size = some _ := Heap.get?_push_of_some _ (Heap.get?_push_of_some _ (Heap.get?_push_size _ rfl))
  have g2 : (zipYH5 s.heap l1 l2).get? (zipYH1 s.heap l1).objs.size = some _ := Heap.get?_push_of_some _ (Heap.get?_push_of_some _ (Heap.get?_push_of_some _ (Heap.get?_push_size _ rfl)))
  have g1 : (zipYH5 s.heap l1 l2).get? s.heap.objs.size = some _ := Heap.get?_push_of_some _ (Heap.get?_push_of_some _ (Heap.get?_push_of_some _ (Heap.get?_push_of_some _ (Heap.get?_push_size _ rfl))))
  show _ ∧ _
  rw [z2, z3, z4] at g5
  rw [z1, z2] at g3
  rw [z3] at g4
  rw [z1] at g2
  rw [z4]
  exact ⟨⟨_, g5, rfl⟩, h _ g5 g3 g4 ⟨_, g1, rfl, rfl⟩ ⟨_, g2, rfl, rfl⟩ z5 fun c o x =>
    Heap.get?_push_of_some _ (Heap.get?_push_of_some _ (Heap.get?_push_of_some _ (Heap.get?_push_of_some _ (Heap.get?_push_of_some _ x))))⟩
end
end
end DL
namespace DL
open PySem PySem.Spec PyProof.Rows L2
/-- a list and a tuple, walked together -/
def ItzY (K : PySem.W.Frag) (a b : Addr) : It :=
  ⟨fun i H => ∃ (xs ys : List V) (x y : V), SqT K H a xs ∧ SqL K H b ys ∧ xs[i]? = some x ∧ ys[i]? = some y,
    fun i H v H' => ∃ T x y, v = .ref T ∧ H T = none ∧ H' = upd H T (.tup [x, y]) ∧ (∀ xs, SqT K H a xs → xs[i]? = some x) ∧ ∀ ys, SqL K H b ys → ys[i]? = some y,
    fun i H => ∃ xs ys : List V, SqT K H a xs ∧ SqL K H b ys ∧ (xs.length ≤ i ∨ ys.length ≤ i)⟩
theorem turn_zipY {P : Program} {w : World} {K : PySem.W.Frag} {elts : List Expr} {kk : Nat} {tpos : Pos} {a b z TI TO i1 i2 : Addr} (D : ZipApart z TI TO i1 i2 a b) :
    Turn P w K (.Tuple elts kk tpos) (ItzY K a b) [z, TI, TO, i1, i2] z (fun i h => IsZip h z TI TO .none ∧ IsPair h TI (.ref i1) (.ref i2) ∧ (∃ x y, IsPair h TO x y) ∧ h.IsTupleIter i1 a i ∧ h.IsListIter i2 b i) where
  mem := by simp
  obj := fun i h st c hc => by
    obtain ⟨hz, hTI, ⟨x, y, hTO⟩, ⟨o1, e1, _, d1⟩, ⟨o2, e2, _, d2⟩⟩ := st
    have e' : c = z ∨ c = TI ∨ c = TO ∨ c = i1 ∨ c = i2 := by simpa using hc
    rcases e' with q | q | q | q | q
    · rw [q]; exact ⟨_, hz, fun v q => nomatch q⟩
    · rw [q]; exact ⟨_, hTI, fun v q => nomatch q⟩
    · rw [q]; exact ⟨_, hTO, fun v q => nomatch q⟩
    · rw [q]; exact ⟨o1, e1, fun v q => by rw [d1] at q; cases q⟩
    · rw [q]; exact ⟨o2, e2, fun v q => by rw [d2] at q; cases q⟩
  keep := fun i h h' st k => by
    obtain ⟨hz, hTI, ⟨x, y, hTO⟩, h1, h2⟩ := st
    exact ⟨k z (by simp) _ hz, k TI (by simp) _ hTI, ⟨x, y, k TO (by simp) _ hTO⟩, h1.at fun o q => k i1 (by simp) o q, h2.at fun o q => k i2 (by simp) o q⟩
  item := by
    intro X hP hw hK hc i pins s σ H E I hf st hg
    subst hP hw hK
    obtain ⟨hz, hTI, ⟨x0, y0, hTO⟩, h1, h2⟩ := st
    obtain ⟨xs, ys, x, y, hqx, hqy, hx, hy⟩ := hg
    obtain ⟨its, rv, p, _⟩ := I.tuple hqx
    obtain ⟨its2, rv2, p2, _⟩ := I.list hqy
    obtain ⟨u, hu, ru⟩ := rv.get hx
    obtain ⟨u2, hu2, ru2⟩ := rv2.get hy
    have hzl : z < s.heap.objs.size := Heap.lt_size hz
    refine pyNext_zipY_item D hz hTI hTO h1 h2 p p2.isList (x := u) (y := u2) (by simpa using hu) (by simpa using hu2) fun h' z' TO' h1' h2' hT hsz hk => ?_
    refine ⟨_, rfl, wpAny_letOwnedTupleGo_zip (s := { s with heap := h' }) z' fun h'' z'' sb => ?_⟩
    have hT2 : h''.get? s.heap.objs.size = some { cls := .type "tuple", data := .seq #[u, u2] } := (sb.2 _ (Nat.ne_of_gt hzl)).trans hT
    have new : ObjOk X.prog X.w (upd H s.heap.objs.size (.tup [x, y])) h'' s.heap.objs.size (.tup [x, y]) :=
      ⟨by show 2 ≤ sizeLine; decide, [u, u2], .cons ru (.cons ru2 .nil), ⟨_, hT2, rfl, _, rfl⟩⟩
    have I1 : Inv X pins σ (upd H s.heap.objs.size (.tup [x, y])) { s with heap := h'' } :=
      I.turnedNew (t' := s.toks) (ch := [z, TI, TO, i1, i2]) (fun c o hb q => (sb.2 c (fun q' => hb (by simp [q']))).trans (hk c o (fun q' => hb (by simp [q'])) (fun q' => hb (by simp [q'])) (fun q' => hb (by simp [q'])) (fun q' => hb (by simp [q'])) q)) hf (Nat.le_refl _) new
    refine ⟨.ref s.heap.objs.size, _, I1, rfl, ⟨_, x, y, rfl, I.hok.fresh (Nat.le_refl _), rfl, fun l hl => by rw [I.tuple_inj hl hqx]; exact hx, fun l hl => by rw [I.list_inj hl hqy]; exact hy⟩, ⟨z'', ?_, ⟨u, u2, ?_⟩, ?_, ?_⟩, fun c hcm => ?_⟩
    · exact (sb.2 _ D.TIz).trans (hk _ _ D.TIz D.TITO D.TIi1 D.TIi2 hTI)
    · exact (sb.2 _ D.TOz).trans TO'
    · exact h1'.at fun o q => (sb.2 _ D.i1z).trans q
    · exact h2'.at fun o q => (sb.2 _ D.i2z).trans q
    · have hlt : c < s.heap.objs.size := by
        have e' : c = z ∨ c = TI ∨ c = TO ∨ c = i1 ∨ c = i2 := by simpa using hcm
        rcases e' with q | q | q | q | q
        · rw [q]; exact hzl
        · rw [q]; exact Heap.lt_size hTI
        · rw [q]; exact Heap.lt_size hTO
        · rw [q]; obtain ⟨_, e1, _⟩ := h1; exact Heap.lt_size e1
        · rw [q]; obtain ⟨_, e2, _⟩ := h2; exact Heap.lt_size e2
      rw [upd_ne (Nat.ne_of_lt hlt)]
      exact (hf c hcm).1
  done := by
    intro X hP hw hK hc i pins s σ H E I hf st hg
    subst hP hw hK
    obtain ⟨hz, hTI, ⟨x0, y0, hTO⟩, h1, h2⟩ := st
    obtain ⟨xs, ys, hqx, hqy, hend⟩ := hg
    obtain ⟨its, rv, p, _⟩ := I.tuple hqx
    obtain ⟨its2, rv2, p2, _⟩ := I.list hqy
    have l1 := rv.length
    have l2 := rv2.length
    have he : its.toArray[i]? = none ∨ its2.toArray[i]? = none := by
      rcases hend with q | q
      · exact .inl (by simp; omega)
      · exact .inr (by simp; omega)
    exact pyNext_zipY_end (I.ok.hd hc) D hz hTI hTO h1 h2 p p2.isList he fun h' hk => ⟨rfl, I.turnedL (t' := s.toks) (ch := [z, TI, TO, i1, i2]) (fun c o hb q =>
      hk c o (fun q' => hb (by simp [q'])) (fun q' => hb (by simp [q'])) (fun q' => hb (by simp [q'])) (fun q' => hb (by simp [q'])) q) hf⟩
  self := fun A i s Q E st h => wpAny_pyIter_zip st.1 h

def iZipY (K : PySem.W.Frag) (ta : TA) : TI := fun σ H R => ta σ H fun vs H1 => ∃ a b xs ys, vs = [.ref a, .ref b] ∧ SqT K H1 a xs ∧ SqL K H1 b ys ∧ R (ItzY K a b) H1
theorem pi_zipY {X : Cx} {e e2 : Expr} {ta : TA} {p pos tpos : Pos} {elts : List Expr} {kk : Nat} (hg : Gl X "zip") (hm : X.mg "zip" = none) (ha : PA X [e, e2] ta)
    (hs : starEach [e, e2] X.env = (false, eval e X.env) :: starEach [e2] X.env := by rfl) (hpl : (backTo pos (starEach [e2] X.env)).any (·.1) = false := by rfl) :
    PI X (.Tuple elts kk tpos) (.Call (.Name "zip" p) [e, e2] [] pos) (iZipY X.K ta) := by
  refine ⟨fun pins s σ H R I h => ?_⟩
  refine Call_ (ld_blt I hg hm PyProof.Rows.boot_zip (PyProof.Rows.callWith_type1 (thn (ha.run pos pins s σ H _ I h) fun us s1 ⟨vs, H1, I1, r1, q1⟩ => ?_) hs hpl))
  obtain ⟨a, b, xs, ys, ex, hqx, hqy, q⟩ := q1
  subst ex
  cases r1 with
  | cons r rr =>
    cases rr with
    | cons r' rr =>
      cases rr
      cases r
      cases r'
      have fresh5 : ∀ c, c ∈ [s1.heap.objs.size + 4, s1.heap.objs.size + 2, s1.heap.objs.size + 3, s1.heap.objs.size, s1.heap.objs.size + 1] → FpOk X pins H1 c := fun c hcm => by
        have e' : c = s1.heap.objs.size + 4 ∨ c = s1.heap.objs.size + 2 ∨ c = s1.heap.objs.size + 3 ∨ c = s1.heap.objs.size ∨ c = s1.heap.objs.size + 1 := by simpa using hcm
        have hle : s1.heap.objs.size ≤ c := by
          rcases e' with z | z | z | z | z
          · rw [z]; exact Nat.le_add_right _ _
          · rw [z]; exact Nat.le_add_right _ _
          · rw [z]; exact Nat.le_add_right _ _
          · rw [z]; exact Nat.le_refl _
          · rw [z]; exact Nat.le_add_right _ _
        exact I1.fpOk hle (I1.hok.fresh hle)
      obtain ⟨its, rv, p1, _⟩ := I1.tuple hqx
      obtain ⟨its2, rv2, p2, _⟩ := I1.list hqy
      obtain ⟨o1, ho1, _⟩ := id p1
      refine call_zipY (show s1.heap.IsTuple a its.toArray from p1) p2.isList fun h' hz hTI hTO h1 h2 hsz hk => wpAny_pyIter_zip hz ?_
      have I2 : Inv X pins σ H1 { s1 with heap := h' } := I1.kept (t' := s1.toks) hk
      exact ⟨s1.heap.objs.size + 4, [s1.heap.objs.size + 4, s1.heap.objs.size + 2, s1.heap.objs.size + 3, s1.heap.objs.size, s1.heap.objs.size + 1], _, _, H1, rfl, I2, turn_zipY (PySem.W.ktu_apart s1.heap.objs.size a b (Heap.lt_size ho1) p2.lt), ⟨hz, hTI, ⟨_, _, hTO⟩, h1, h2⟩, fresh5, q⟩
end DL
namespace DL
open PySem PySem.Spec PyProof.Rows L2
section
variable {K : PySem.W.Frag} {Γ : Sl} {m : Mem}
theorem pi_zipYK {X : Cx} {e e2 : Expr} {ta : TA} {p pos tpos : Pos} {elts : List Expr} {kk : Nat} (h : X.K = K) (hg : Gl X "zip") (hm : X.mg "zip" = none) (ha : PA X [e, e2] ta)
    (hs : starEach [e, e2] X.env = (false, eval e X.env) :: starEach [e2] X.env := by rfl) (hpl : (backTo pos (starEach [e2] X.env)).any (·.1) = false := by rfl) :
    PI X (.Tuple elts kk tpos) (.Call (.Name "zip" p) [e, e2] [] pos) (iZipY K ta) := h ▸ pi_zipY hg hm ha hs hpl
theorem yl_zipY {F : Hp} {a b : Addr} {xs ys : List V} {ds es : List PyData} (h1 : SqT K F a xs) (h2 : DqAll K F xs ds) (h3 : SqL K F b ys) (h4 : DqAll K F ys es) : Yl K (ItzY K a b) F G0 (zpS ds es) where
  at_ := fun i d F' m' R H' hd e c _ => by
    obtain ⟨d0, e0, hd', he', rfl⟩ := zpS_get hd
    obtain ⟨v, hv, hp⟩ := dpa_get h2 hd'
    obtain ⟨u, hu, hq⟩ := dpa_get h4 he'
    have hs : SqT K H' a xs := same_sqt (e.trans (cn_sub c)) h1
    have ht : SqL K H' b ys := (e.trans (cn_sub c)).seq h3
    refine ⟨⟨xs, ys, v, u, hs, ht, hv, hu⟩, fun x H2 ⟨T, y, z, ex, hT, eH, hx, hz⟩ => ?_⟩
    subst ex; subst eH
    have := hx xs hs
    rw [hv] at this; cases this
    have := hz ys ht
    rw [hu] at this; cases this
    have hf := (cn_fresh c hT).1
    refine ⟨upd F' T (.tup [v, u]), same_new hf, cn_newF c hT, Dq.tup upd_same (.cons (dp_mono (e.trans (same_new hf)) hp) (.cons (dp_mono (e.trans (same_new hf)) hq) .nil))⟩
  stop := fun F' m' R H' e c _ => ⟨xs, ys, same_sqt (e.trans (cn_sub c)) h1, (e.trans (cn_sub c)).seq h3, by
    have e1 := dpa_len h2
    have e2 := dpa_len h4
    unfold zpS
    rw [List.length_map, List.length_zip]
    omega⟩
theorem ari_zipY {ta : TA} {Z : List S → (Mem → Prop) → Mem → Prop} (h : ARA K ta Γ m fun xs m1 => ∃ ds es, xs = [.d (.tuple ds), .d (.list es)] ∧ Z (zpS ds es) G0 m1) : ARI K (iZipY K ta) Γ m Z := fun σ F R H R' g c k =>
  h σ F R H _ g c fun vs xs F1 m1 H1 e1 c1 r1 q1 => by
    obtain ⟨ds, es, rfl, q⟩ := q1
    cases r1 with
    | cons ra b =>
      cases b with
      | cons rb b' =>
      cases b'
      obtain ⟨a, xs, rfl, h1, h2⟩ := dp_tup ra
      obtain ⟨b, ys, rfl, h3, h4⟩ := dp_list rb
      exact ⟨a, b, xs, ys, rfl, same_sqt (cn_sub c1) h1, (cn_sub c1).seq h3, k _ _ _ F1 m1 H1 e1 c1 (yl_zipY h1 h2 h3 h4) True.intro q⟩
theorem ex_zipY {a b : List PyData} {P : List PyData → List PyData → Prop} (h : P a b) : ∃ ds es, [S.d (.tuple a), S.d (.list b)] = [S.d (.tuple ds), S.d (.list es)] ∧ P ds es := ⟨a, b, rfl, h⟩
end
end DL

namespace DL
open PySem PySem.Spec PySem.W PyProof.Rows L2
/-! ### a text walked sign by sign; a sign in a text; texts in an owned list; a list or a tuple walked; constants -/
def iOr (a b : TI) : TI := fun σ H R => a σ H R ∨ b σ H R
theorem pi_or {X : Cx} {tg e : Expr} {a b : TI} (ha : PI X tg e a) (hb : PI X tg e b) : PI X tg e (iOr a b) := ⟨fun pins s σ H R I h => h.elim (ha.run pins s σ H R I) (hb.run pins s σ H R I)⟩
section
variable {K : PySem.W.Frag} {Γ : Sl} {m : Mem} {Q : S → Mem → Prop} {te ta tb : TE} {Z : List S → (Mem → Prop) → Mem → Prop}
theorem ari_or1 {a b : TI} (h : ARI K a Γ m Z) : ARI K (iOr a b) Γ m Z := fun σ F R H R' g c k => .inl (h σ F R H R' g c k)
theorem ari_or2 {a b : TI} (h : ARI K b Γ m Z) : ARI K (iOr a b) Γ m Z := fun σ F R H R' g c k => .inr (h σ F R H R' g c k)
def stS (z : Str) : List S := z.cps.toList.map fun c => S.d (.str ⟨#[c]⟩)
theorem yl_str {F : Hp} {z : Str} : Yl K (Its z) F G0 (stS z) where
  at_ := fun i d F' m' R H' hd e c _ => by
    unfold stS at hd
    rw [List.getElem?_map, Array.getElem?_toList] at hd
    cases hc : z.cps[i]? with
    | none => rw [hc] at hd; cases hd
    | some k =>
      rw [hc] at hd; cases hd
      refine ⟨(Array.getElem?_eq_some_iff.mp hc).1, fun x H2 ⟨e2, c2, h1, h2⟩ => ?_⟩
      subst e2
      rw [hc] at h1; cases h1
      subst h2
      exact ⟨F', Same.refl F', c, Dq.str _⟩
  stop := fun F' m' R H' e c _ => by
    show z.cps.size ≤ _
    unfold stS
    rw [List.length_map, Array.length_toList]
    exact Nat.le_refl _
theorem ari_str (h : AR K te Γ m fun x m1 => ∃ z, x = .d (.str z) ∧ Z (stS z) G0 m1) : ARI K (iStr te) Γ m Z := fun σ F R H R' g c k =>
  h σ F R H _ g c fun v x F1 m1 H1 e1 c1 r1 q1 => by
    obtain ⟨z, rfl, q⟩ := q1
    cases r1
    exact ⟨z, rfl, k _ _ _ F1 m1 H1 e1 c1 yl_str True.intro q⟩
theorem in_sign {c : Nat} {z : Str} (q : Q (.d (.bool (decide (c ∈ z.cps.toList)))) m) : LO K (rINS K) (.d (.str ⟨#[c]⟩)) (.d (.str z)) m Q := lo_r (lo_r (lo_r fun v u F R H Q' a b cn k => by
  cases a; cases b
  exact ⟨c, z, rfl, rfl, k _ (.d (.bool (decide (c ∈ z.cps.toList)))) F m H (Same.refl F) cn (Dq.bl _) q⟩))
theorem own_strs {a : Addr} {ns : List Str} {F R H : Hp} (hm : m a = some (.lst (ns.map fun n => S.d (.str n)))) (c : Cn K m F R H) : H a = some (.lst (ns.map V.str)) := (by
  obtain ⟨vs, hv, rv⟩ := own_lst c hm
  have h2 : DqAll K F vs (ns.map PyData.str) := rss_dpa (by rw [dmap]; exact rv)
  rw [strs_of h2] at hv
  exact hv)
theorem in_so {a : Addr} {ns : List Str} {i : Str} (hm : m a = some (.lst (ns.map fun n => S.d (.str n)))) (q : Q (.d (.bool (decide (i ∈ ns)))) m) : LO K (rINS K) (.d (.str i)) (.r a) m Q := lo_r (lo_l fun v u F R H Q' ra rb c k => by
  cases ra
  obtain rfl : u = .ref a := rb
  refine ⟨a, _, rfl, .inl (.inl (.inl (own_strs hm c))), rfl, flat_strs ns, k _ (.d (.bool (decide (i ∈ ns)))) F m H (Same.refl F) c ?_ q⟩
  show Dq K F (.bl (inV (.str i) (ns.map V.str))) _
  rw [inV_strs]; exact Dq.bl _)
/-- a tuple of texts that stands in the module -/
theorem ar_cref {a : Addr} (h : Q (.r a) m) : AR K (tC (.ref a)) Γ m Q := fun σ F R H Q' g c k => k _ (.r a) F m H (Same.refl F) c rfl h
theorem in_c {a : Addr} {ns : List Str} {i : Str} (hs : ∀ H : Hp, SqT K H a (ns.map V.str)) (q : Q (.d (.bool (decide (i ∈ ns)))) m) : LO K (rINS K) (.d (.str i)) (.r a) m Q := lo_r (lo_l fun v u F R H Q' ra rb c k => by
  cases ra
  obtain rfl : u = .ref a := rb
  refine ⟨a, _, rfl, .inr (hs H), rfl, flat_strs ns, k _ (.d (.bool (decide (i ∈ ns)))) F m H (Same.refl F) c ?_ q⟩
  show Dq K F (.bl (inV (.str i) (ns.map V.str))) _
  rw [inV_strs]; exact Dq.bl _)
end
end DL

namespace DL
open PySem PySem.Spec PySem.W PyProof.Rows L2 RZ
/-! ### zip of two lists or of two tuples -/
theorem pi_zipAK {K : PySem.W.Frag} {X : Cx} {e e2 : Expr} {ta : TA} {p pos tpos : Pos} {elts : List Expr} {kk : Nat} (h : X.K = K) (hg : Gl X "zip") (hm : X.mg "zip" = none) (ha : PA X [e, e2] ta)
    (hs : starEach [e, e2] X.env = (false, eval e X.env) :: starEach [e2] X.env := by rfl) (hpl : (backTo pos (starEach [e2] X.env)).any (·.1) = false := by rfl) :
    PI X (.Tuple elts kk tpos) (.Call (.Name "zip" p) [e, e2] [] pos) (iZipA K ta) := h ▸ pi_zipA hg hm ha hs hpl
section
variable {K : PySem.W.Frag} {Γ : Sl} {m : Mem} {Z : List S → (Mem → Prop) → Mem → Prop}
theorem yl_zipT {F : Hp} {a b : Addr} {xs ys : List V} {ds es : List PyData} (h1 : SqT K F a xs) (h2 : DqAll K F xs ds) (h3 : SqT K F b ys) (h4 : DqAll K F ys es) : Yl K (ItzT K a b) F G0 (zpS ds es) where
  at_ := fun i d F' m' R H' hd e c _ => by
    obtain ⟨d0, e0, hd', he', rfl⟩ := zpS_get hd
    obtain ⟨v, hv, hp⟩ := dpa_get h2 hd'
    obtain ⟨u, hu, hq⟩ := dpa_get h4 he'
    have hs : SqT K H' a xs := same_sqt (e.trans (cn_sub c)) h1
    have ht : SqT K H' b ys := same_sqt (e.trans (cn_sub c)) h3
    refine ⟨⟨xs, ys, v, u, hs, ht, hv, hu⟩, fun x H2 ⟨T, y, z, ex, hT, eH, hx, hz⟩ => ?_⟩
    subst ex; subst eH
    have := hx xs hs
    rw [hv] at this; cases this
    have := hz ys ht
    rw [hu] at this; cases this
    have hf := (cn_fresh c hT).1
    refine ⟨upd F' T (.tup [v, u]), same_new hf, cn_newF c hT, Dq.tup upd_same (.cons (dp_mono (e.trans (same_new hf)) hp) (.cons (dp_mono (e.trans (same_new hf)) hq) .nil))⟩
  stop := fun F' m' R H' e c _ => ⟨xs, ys, same_sqt (e.trans (cn_sub c)) h1, same_sqt (e.trans (cn_sub c)) h3, by
    have e1 := dpa_len h2
    have e2 := dpa_len h4
    unfold zpS
    rw [List.length_map, List.length_zip]
    omega⟩
theorem ari_zipA1 {ta : TA} (h : ARA K ta Γ m fun xs m1 => ∃ ds es, xs = [.d (.list ds), .d (.list es)] ∧ Z (zpS ds es) G0 m1) : ARI K (iZipA K ta) Γ m Z := fun σ F R H R' g c k =>
  h σ F R H _ g c fun vs xs F1 m1 H1 e1 c1 r1 q1 => by
    obtain ⟨ds, es, rfl, q⟩ := q1
    cases r1 with
    | cons ra b =>
      cases b with
      | cons rb b' =>
      cases b'
      obtain ⟨a, xs, rfl, h1, h2⟩ := dp_list ra
      obtain ⟨b, ys, rfl, h3, h4⟩ := dp_list rb
      exact ⟨a, b, xs, ys, rfl, .inl ⟨(cn_sub c1).seq h1, (cn_sub c1).seq h3, k _ _ _ F1 m1 H1 e1 c1 (yl_zip h1 h2 h3 h4) True.intro q⟩⟩
theorem ari_zipA2 {ta : TA} (h : ARA K ta Γ m fun xs m1 => ∃ ds es, xs = [.d (.tuple ds), .d (.tuple es)] ∧ Z (zpS ds es) G0 m1) : ARI K (iZipA K ta) Γ m Z := fun σ F R H R' g c k =>
  h σ F R H _ g c fun vs xs F1 m1 H1 e1 c1 r1 q1 => by
    obtain ⟨ds, es, rfl, q⟩ := q1
    cases r1 with
    | cons ra b =>
      cases b with
      | cons rb b' =>
      cases b'
      obtain ⟨a, xs, rfl, h1, h2⟩ := dp_tup ra
      obtain ⟨b, ys, rfl, h3, h4⟩ := dp_tup rb
      exact ⟨a, b, xs, ys, rfl, .inr ⟨same_sqt (cn_sub c1) h1, same_sqt (cn_sub c1) h3, k _ _ _ F1 m1 H1 e1 c1 (yl_zipT h1 h2 h3 h4) True.intro q⟩⟩
end
end DL

namespace DL
open PySem PySem.Spec PySem.W PyProof.Rows L2
/-! ### asked of owned lists of lists; how many unlike; the keys of a dict, sorted -/
def tLenSetG (K : PySem.W.Frag) (ta : TE) : TE := fun σ H Q => ta σ H fun x H1 => ∃ (l : Addr) (ns : List Int), x = .ref l ∧ SqL K H1 l (ns.map V.int) ∧ ns.length ≤ 4000 ∧ ∀ ys : List Int, ys.Nodup → (∀ k, k ∈ ys ↔ k ∈ ns) → ys.length ≤ ns.length → Q (.int (ys.length : Nat)) H1
theorem pe_lenSetG {X : Cx} {a : Expr} {ta : TE} {p p2 q pos : Pos} (hg : Gl X "len") (hm : X.mg "len" = none) (hg2 : Gl X "set") (hm2 : X.mg "set" = none) (ha : PE X a ta) (hc : X.calm = true)
    (na : starEach [a] X.env = (false, eval a X.env) :: starEach [] X.env := by rfl) : PE X (.Call (.Name "len" p) [.Call (.Name "set" p2) [a] [] q] [] pos) (tLenSetG X.K ta) := by
  refine ⟨fun pins s σ H Q I h => ?_⟩
  refine Call_ (ld_blt I hg hm boot_len ?_)
  refine PyProof.Rows.callWith_builtin1 (PyProof.Rows.args_cons ?_ rfl) rfl rfl
  refine Call_ (ld_blt I hg2 hm2 boot_set ?_)
  refine PyProof.Rows.callWith_type1 (PyProof.Rows.args_cons (thn (ha.run pins s σ H _ I h) fun v s1 ⟨x, H1, I1, r1, q1⟩ => PyProof.Rows.args_nil ?_) na) na rfl
  obtain ⟨l, ns, rfl, hq, hl, q1⟩ := q1
  cases r1
  obtain ⟨its, r, pl, hz⟩ := I1.list hq
  refine set_of_list ns (I1.ok.hd hc) pl.isList r.ints (by unfold scanBound; omega) fun h2 tk c hS hcl hk => ?_
  refine PyProof.Rows.args_nil ?_
  have I2 : Inv X pins σ H1 { s1 with heap := h2, toks := tk } := I1.kept fun b o e => hk b o e
  obtain ⟨o, es, ep, t, ho, hex, hd, g, nd, hmm, hb, hf, hn, hr, hll⟩ := hS
  have hkl : (es.toList.map keyOf).length = c := by rw [List.length_map]; exact hn
  have q2 := q1 (es.toList.map keyOf) nd (fun k => (hmm k).symm.trans (by simp)) (by rw [hkl]; exact hcl)
  rw [hkl] at q2
  exact call_len_set ho hex hd hf (by rw [hn] <;> omega) ⟨.int c, H1, I2.tok _, ⟨_, by rw [hn]⟩, q2⟩
theorem pr_keysG {α β : Type} {P : α → β → Prop} {κ : Type} : ∀ {vs : List (κ × α)} {ks : List (κ × β)}, Paired (fun (p : κ × α) (q : κ × β) => p.1 = q.1 ∧ P p.2 q.2) vs ks → vs.map (·.1) = ks.map (·.1)
  | [], [], .nil => rfl
  | _ :: _, _ :: _, .cons h t => by rw [List.map_cons, List.map_cons, h.1, pr_keysG t]
def rSortDI : List V → Hp → VK → Prop := fun xs H Q => ∃ (a : Addr) (kvs : List (Key × V)) (ks : List Int), xs = [.ref a] ∧ Rd H a (.dK kvs) ∧ kvs.map (·.1) = ks.map Sum.inl ∧ ks.length < 64 ∧
    ∀ (ys : List Int) (p : Addr), ys.Perm ks → ys.Pairwise (· ≤ ·) → H p = none → Q (.ref p) (upd H p (.lst (ys.map V.int)))
theorem cr_sortDIK {X : Cx} (hc : X.calm = true) : CallR X (.builtin "sorted") rSortDI := call_sortedDI hc
section
variable {K : PySem.W.Frag} {Γ : Sl} {m : Mem} {Q : S → Mem → Prop} {te : TE}
theorem pe_lenSetGK {X : Cx} {a : Expr} {ta : TE} {p p2 q pos : Pos} (h : X.K = K) (hg : Gl X "len") (hm : X.mg "len" = none) (hg2 : Gl X "set") (hm2 : X.mg "set" = none) (ha : PE X a ta) (hc : X.calm = true)
    (na : starEach [a] X.env = (false, eval a X.env) :: starEach [] X.env := by rfl) : PE X (.Call (.Name "len" p) [.Call (.Name "set" p2) [a] [] q] [] pos) (tLenSetG K ta) := h ▸ pe_lenSetG hg hm hg2 hm2 ha hc na
theorem ar_lenSetG (h : AR K te Γ m fun x m1 => ∃ ns : List Int, x = .d (dI ns) ∧ ns.length ≤ 4000 ∧ ∀ ys : List Int, ys.Nodup → (∀ k, k ∈ ys ↔ k ∈ ns) → ys.length ≤ ns.length → Q (.d (.int (ys.length : Nat))) m1) : AR K (tLenSetG K te) Γ m Q := fun σ F R H Q' g c k =>
  h σ F R H _ g c fun v x F1 m1 H1 e1 c1 r1 q1 => by
    obtain ⟨ns, rfl, hl, q⟩ := q1
    obtain ⟨p, vs, rfl, h1, h2⟩ := dp_list r1
    obtain rfl := ints_of h2
    exact ⟨p, ns, rfl, (cn_sub c1).seq h1, hl, fun ys h3 h4 h5 => k _ (.d (.int (ys.length : Nat))) F1 m1 H1 e1 c1 (Dq.int _) (q ys h3 h4 h5)⟩
theorem sortDI_is {a : Addr} {kvs : List (Int × S)} (hm : m a = some (cI kvs)) (hl : kvs.length < 64) (q : ∀ ys : List Int, ys.Perm (kvs.map (·.1)) → ys.Pairwise (· ≤ ·) → Q (.d (dI ys)) m) : LB K rSortDI [.r a] m Q := fun vs F R H Q' h c k => by
  cases h with
  | cons h d =>
    cases d
    cases h
    obtain ⟨ws, hv, pr⟩ := own_dK (ks := kvs.map fun p => (Sum.inl p.1, p.2)) c hm
    refine ⟨a, ws, kvs.map (·.1), rfl, .inl hv, ?_, by rw [List.length_map]; exact hl, fun ys p h1 h2 hp => new_D c hp ints_dqa k (q ys h1 h2)⟩
    rw [pr_keysG pr, List.map_map, List.map_map]
    rfl
/-- a, b = x, y -/
theorem ars_par {i j : Nat} {ta : TA} {D : AD} (h : ARA K ta Γ m fun xs m1 => match xs with | [x, y] => D.nx ((Γ.set i (some x)).set j (some y)) m1 | _ => False) : ARS K (tPar i j ta) Γ m D := fun σ F R H D' g c k =>
  h σ F R H _ g c fun vs xs F1 m1 H1 e1 c1 r1 q1 => by
    match xs, r1, q1 with
    | [], _, q => exact q.elim
    | [_], _, q => exact q.elim
    | _ :: _ :: _ :: _, _, q => exact q.elim
    | [x, y], .cons (a := v) rx (.cons (a := w) ry .nil), q =>
      exact ⟨v, w, rfl, k.nx _ _ F1 m1 H1 e1 (rg_set (rg_set (rg_mono e1 g) rx i) ry j) c1 q⟩
/-- `in` an owned list of data -/
theorem in_dO {a : Addr} {d : PyData} {ds : List PyData} (hm : m a = some (.lst (ds.map S.d))) (h1 : SeqAt.shaped d = true) (h2 : SeqAt.shaped (.list ds) = true) (q : Q (.d (.bool (ds.any fun z => PyData.eqv z d))) m) : LO K (rINS K) (.d d) (.r a) m Q := lo_l fun v u F R H Q' ra rb c k => by
  obtain rfl : u = .ref a := rb
  obtain ⟨vs, hv, rv⟩ := own_lst c hm
  have hl := sh_cl h2
  refine ⟨d, ds, dq_dp (sh_cl h1) (dp_mono (cn_sub c) ra), .lst (.inl (.inl hv)) (dqa_dpa (by simpa [PyData.canLay0] using hl) (dpa_mono (cn_sub c) (rss_dpa rv))), h1, h2, k _ (.d (.bool (ds.any fun z => PyData.eqv z d))) F m H (Same.refl F) c (Dq.bl _) q⟩
theorem in_nilO {a : Addr} {ss : List (List Int)} (hm : m a = some (.lst (ss.map fun s => S.d (dI s)))) (q : Q (.d (.bool (ss.any fun s => s.isEmpty))) m) : LO K (rINS K) (.d (.list [])) (.r a) m Q :=
  in_dO (ds := ss.map dI) (by rw [dmap]; exact hm) (by decide) (sh_ok sh_dSets) (by
    rw [List.any_map, show ((fun z => PyData.eqv z (.list [])) ∘ dI) = fun s : List Int => s.isEmpty from funext fun s => by
      show PyData.eqv (.list (s.map PyData.int)) (.list []) = _
      rw [eqv_nil, List.isEmpty_map]]
    exact q)
theorem ix_lstOf {x : S} {ss : List (List Int)} {i : Nat} (h : LstOf m x ss) (hi : i < ss.length) (q : Q (.d (dI (ss.getD i []))) m) : LO K (rIX K) x (.d (.int (i : Nat))) m Q := (by
  rcases h with rfl | ⟨a, rfl, hm⟩
  · exact ix_set hi q
  · refine ix_o hm (x := S.d (dI (ss.getD i []))) (atm (f := fun s => S.d (dI s)) ?_) q
    rw [List.getElem?_eq_getElem hi, List.getD_eq_getElem?_getD, List.getElem?_eq_getElem hi]; rfl)
theorem nodup_le {ys : List Int} {n : Nat} (hd : ys.Nodup) (h : ∀ k ∈ ys, 0 ≤ k ∧ k < (n : Int)) : ys.length ≤ n := (by
  have e : (ys.map Int.toNat).Nodup := List.pairwise_map.mpr (List.Pairwise.imp_of_mem (fun {a b} ha hb hne e => hne (by have := h a ha; have := h b hb; omega)) hd)
  have := List.Nodup.length_le_of_subset e (l₂ := List.range n) fun x hx => by
    obtain ⟨y, hy, rfl⟩ := List.mem_map.mp hx
    have := h y hy
    exact List.mem_range.mpr (by omega)
  rw [List.length_map, List.length_range] at this
  exact this)
theorem nodup_all {ys : List Int} {n : Nat} (hd : ys.Nodup) (h : ∀ k ∈ ys, 0 ≤ k ∧ k < (n : Int)) (hn : n ≤ ys.length) {t : Nat} (ht : t < n) : (t : Int) ∈ ys := (by
  apply Classical.byContradiction
  intro hno
  have := nodup_le (ys := (t : Int) :: ys) (n := n) (List.nodup_cons.mpr ⟨hno, hd⟩) fun k hk => by
    rcases List.mem_cons.mp hk with rfl | hk
    · omega
    · exact h k hk
  rw [List.length_cons] at this
  omega)
end
end DL

namespace DL
open PySem PySem.Spec PySem.W PyProof.Rows L2
/-! ### list(d.items()), dict(pairs) as data -/
section
variable {K : PySem.W.Frag} {Γ : Sl} {m : Mem} {Q : S → Mem → Prop} {te : TE}
/-- the heap grows: what is new is frozen -/
theorem cn_ext {m : Mem} {F R H H' : Hp} (c : Cn K m F R H) (hs : ∀ a o, H a = some o → H' a = some o) : ∃ F', Same F F' ∧ Cn K m F' R H' ∧ ∀ a, H a = none → F' a = H' a := (by
  classical
  have sub := cn_sub c
  have sm : Same F (fun a => if m a = none ∧ R a = none then H' a else F a) := fun a o e => by
    show (if m a = none ∧ R a = none then H' a else F a) = some o
    split
    · exact hs _ _ (sub _ _ e)
    · exact e
  refine ⟨fun a => if m a = none ∧ R a = none then H' a else F a, sm, ⟨fun a x e => ?_, fun a u e => ?_, fun a e1 e2 => ?_⟩, fun a e => ?_⟩
  · obtain ⟨h1, h2, o, h3, h4⟩ := c.own a x e
    refine ⟨?_, h2, o, hs _ _ h3, rc_mono sm h4⟩
    show (if m a = none ∧ R a = none then H' a else F a) = none
    rw [if_neg (by rw [e]; simp)]
    exact h1
  · obtain ⟨h1, h2⟩ := c.hid a u e
    refine ⟨?_, hs _ _ h2⟩
    show (if m a = none ∧ R a = none then H' a else F a) = none
    rw [if_neg (by rw [e]; simp)]
    exact h1
  · show H' a = (if m a = none ∧ R a = none then H' a else F a)
    rw [if_pos ⟨e1, e2⟩]
  · obtain ⟨_, h1, h2⟩ := cn_fresh c e
    show (if m a = none ∧ R a = none then H' a else F a) = H' a
    rw [if_pos ⟨h1, h2⟩])
theorem items_dqa {F1 F2 H1 H' : Hp} (e2 : Same F1 F2) (hF : ∀ a, H1 a = none → F2 a = H' a) : ∀ {ts : List Addr} {vs : List (Key × V)} {kvs : List (Int × PyData)}, (∀ t ∈ ts, H1 t = none) → Paired (fun (t : Addr) (q : Key × V) => H' t = some (.tup [kV q.1, q.2])) ts vs → Paired (fun (p : Key × V) (q : Key × S) => p.1 = q.1 ∧ RS K F1 p.2 q.2) vs (kvs.map fun p => ((Sum.inl p.1 : Key), S.d p.2)) → DqAll K F2 (ts.map V.ref) (kvs.map fun p => .tuple [.int p.1, p.2])
  | [], [], [], _, _, _ => .nil
  | [], _ :: _, _, _, h, _ => nomatch h
  | _ :: _, [], _, _, h, _ => nomatch h
  | _, [], _ :: _, _, _, h => nomatch h
  | _, _ :: _, [], _, _, h => nomatch h
  | t :: ts, (k, v) :: vs, p :: kvs, ht, h1, h2 => by
    rw [List.map_cons] at h2
    cases h1 with
    | cons a1 t1 =>
      cases h2 with
      | cons a2 t2 =>
        obtain ⟨e, r⟩ := a2
        have e : k = Sum.inl p.1 := e
        subst e
        exact .cons (Dq.tup (by rw [hF t (ht t List.mem_cons_self)]; exact a1) (.cons (Dq.int _) (.cons (dp_mono e2 r) .nil))) (items_dqa e2 hF (fun x hx => ht x (List.mem_cons_of_mem _ hx)) t1 t2)
theorem ar_listItems (h : AR K te Γ m fun x m1 => ∃ kvs : List (Int × PyData), x = .d (dDI kvs) ∧ Q (.d (.list (kvs.map fun p => .tuple [.int p.1, p.2]))) m1) : AR K (LiI.tListItems te) Γ m Q := fun σ F R H Q' g c k =>
  h σ F R H _ g c fun v x F1 m1 H1 e1 c1 r1 q1 => by
    obtain ⟨kvs, rfl, q⟩ := q1
    obtain ⟨b, vs, rfl, hb, pr⟩ := dict_at r1
    refine ⟨b, vs, rfl, cn_sub c1 _ _ hb, fun H' p ts hs hp ht hpt h' pr' => ?_⟩
    obtain ⟨F2, e2, c2, hF⟩ := cn_ext c1 hs
    exact k (.ref p) (.d (.list _)) F2 m1 H' (e1.trans e2) c2 (Dq.lst (by rw [hF p hp]; exact h') (items_dqa e2 hF ht pr' pr)) q
theorem dks_ofI {F : Hp} : ∀ {vs : List (Key × V)} {kvs : List (Int × PyData)}, Paired (fun (p : Key × V) (q : Key × S) => p.1 = q.1 ∧ RS K F p.2 q.2) vs (kvs.map fun p => ((Sum.inl p.1 : Key), S.d p.2)) → DqKs K F vs (kvs.map fun p => (.int p.1, p.2))
  | [], [], _ => .nil
  | [], _ :: _, h => nomatch h
  | _ :: _, [], h => nomatch h
  | (k, v) :: vs, p :: kvs, h => by
    rw [List.map_cons] at h
    cases h with
    | cons a t =>
      obtain ⟨e, r⟩ := a
      have e : k = Sum.inl p.1 := e
      subst e
      exact .cons r (dks_ofI t)
theorem dictp_dat {kvs : List (Int × PyData)} (hn : (kvs.map (·.1)).Nodup) (q : Q (.d (dDI kvs)) m) : LB K (rDictP K) [.d (.list (kvs.map fun p => .tuple [.int p.1, p.2]))] m Q := fun vs F R H Q' h c k => by
  cases h with
  | cons h d =>
    cases d
    obtain ⟨a, xs, rfl, hF, hx⟩ := dp_listH h
    obtain ⟨ps, ws, rfl, h1, h2, h3⟩ := dictp_rows (cn_sub c) hx
    refine ⟨a, ps, ws, rfl, .inl (.inl (cn_sub c _ _ hF)), h1, fun l hl => k _ (.d (dDI kvs)) _ m _ (same_new (cn_fresh c hl).1) (cn_newF c hl) (Dq.dct upd_same ?_) q⟩
    rw [mergeK_nd (acc := []) (by
      rw [List.nil_append, h3, show (kvs.map fun p => (Sum.inl p.1 : Key)) = (kvs.map (·.1)).map fun i => (Sum.inl i : Key) by rw [List.map_map]; rfl]
      exact List.Pairwise.map _ (fun a b h e => h (Sum.inl.inj e)) hn), List.nil_append]
    exact dks_ofI (Paired.mapP h2 fun _ _ q => ⟨q.1, rs_mono (same_new (cn_fresh c hl).1) q.2⟩)
end
end DL

namespace DL
open PySem PySem.Spec PyProof.Rows L2
section
variable {K : PySem.W.Frag} {Γ : Sl} {m : Mem} {Q : S → Mem → Prop} {te : TE}
/-! a whole number as a text -/
def rStrI : List V → Hp → VK → Prop := fun xs H Q => ∃ i : Int, xs = [.int i] ∧ i.natAbs.log2 < 1920 ∧ Q (.str (toString i)) H
theorem cr_strI {X : Cx} : CallR X (.type "str") rStrI := call_str_int
theorem log_small {n : Nat} (h : n ≤ 4000000000000) : n.log2 < 1920 := (by
  by_cases e : n = 0
  · subst e; decide
  · exact (Nat.log2_lt e).mpr (Nat.lt_of_le_of_lt h (by decide)))
theorem char_ok (c : Char) : c.toNat < 1114112 := (by
  rcases c.valid with h | h
  · exact Nat.lt_of_lt_of_le h (by decide)
  · exact h.2)
theorem str_okS (s : String) : PyData.strOk (Str.ofString s) = true := (by
  rw [Str.ofString_eq_toList]
  unfold PyData.strOk
  rw [Array.all_eq_true_iff_forall_mem]
  intro c hc
  obtain ⟨d, _, rfl⟩ := List.mem_map.mp (by simpa using hc)
  exact decide_eq_true (char_ok d))
theorem strI_i {i : Int} (h1 : -1000000000000 ≤ i) (h2 : i ≤ 1000000000000) (q : ∀ x : Str, PyData.strOk x = true → Q (.d (.str x)) m) : LB K rStrI [.d (.int i)] m Q := fun vs F R H Q' a c k => by
  cases a with
  | cons a d => cases d; cases a; exact ⟨i, rfl, log_small (by omega), k _ (.d (.str _)) F m H (Same.refl F) c (Dq.str _) (q _ (str_okS _))⟩
theorem ix_any_l {ds : List PyData} {i : Int} (h0 : 0 ≤ i) (h1 : i < ds.length) (q : ∀ d, d ∈ ds → Q (.d d) m) : LO K (rIX K) (.d (.list ds)) (.d (.int i)) m Q := (by
  obtain ⟨n, h2, h3⟩ := at_int h0 h1
  exact ix_l h2 (q n h3))
theorem in_tis {i : Int} {ns : List Int} (q : Q (.d (.bool (decide (i ∈ ns)))) m) : LO K (rINS K) (.d (.int i)) (.d (.tuple (ns.map PyData.int))) m Q := lo_r (lo_l fun v u F R H Q' a b c k => by
  obtain ⟨p, vs, rfl, h1, h2⟩ := dp_tup b
  have e := ints_of h2
  subst e
  cases a
  refine ⟨p, _, rfl, .inr (same_sqt (cn_sub c) h1), rfl, flat_ints ns, k _ (.d (.bool (decide (i ∈ ns)))) F m H (Same.refl F) c ?_ q⟩
  show Dq K F (.bl (inV (.int i) (ns.map V.int))) _
  rw [inV_ints]; exact Dq.bl _)
theorem in_ti2 {i a b : Int} (q : Q (.d (.bool (decide (i ∈ [a, b])))) m) : LO K (rINS K) (.d (.int i)) (.d (.tuple [.int a, .int b])) m Q := in_tis (ns := [a, b]) q
end
end DL

namespace DL
open PySem PySem.Spec PySem.W PyProof.Rows L2
section
variable {P : Program} {w : World} {A : Around} {E : Value → Shared → Prop} {s : Shared}
/-! ### set(list of few unlike whole numbers), a list of any length -/
theorem setr_few {h : Heap} {a : Addr} {S : Int → Bool} {c : Nat} (R : SetR w h a S c) (hr : ∀ k, S k = true → 0 ≤ k ∧ k < ((1000 : Nat) : Int)) : c ≤ 1000 := (by
  obtain ⟨o, es, ep, t, ho, hex, hd, g, nd, hmm, hb, hf, hn, hr2⟩ := R
  have h2 := nodup_le nd fun k hk => hr k ((hmm k).mpr hk)
  rw [List.length_map, Array.length_toList, hn] at h2
  exact h2)
theorem set_upd_few {J : Addr} {fp wr : List Addr} {G : Array GenState → Array GenState → Prop} {n : Nat} {Vl : Nat → Value → Prop} {Pt : Nat → Shared → Prop} {Out : Result → Shared → Prop} (W : WalksS P w A.in1 J fp wr G n Vl Pt) (T : Addr) (hT : T ∉ fp) (ns : List Int) (hn : n = ns.length) (hfew : ∀ k ∈ ns, 0 ≤ k ∧ k < ((1000 : Nat) : Int)) (hv : ∀ i v, Vl i v → ∃ y u, ns[i]? = some y ∧ v = .int y u) :
    ∀ (j i : Nat) (q : Shared), n - i = j → i ≤ n → Pt i q → (∃ d, d ≤ i ∧ SetR w q.heap T (fun y => decide (y ∈ ns.take i)) d) → (∀ q2 d, Moved (T :: wr) G q q2 → d ≤ n → SetR w q2.heap T (fun y => decide (y ∈ ns)) d → Out (.ok (.ret .none)) q2) → codeAny (model P w) A (.builtin "set.update.loop" ⟨[.ref T, .ref J], []⟩) Out q := by
  have nw : T ∉ wr := fun h0 => hT (W.sub _ h0)
  have up : ∀ b ∈ wr, b ∈ T :: wr := fun b h0 => List.mem_cons_of_mem _ h0
  intro j
  induction j with
  | zero =>
    intro i q e0 le0 at0 ⟨d, dle, hd⟩ out
    obtain rfl : i = n := by omega
    refine codeAny_builtin F.entry_set_update_loop ?_
    rw [Around.under_plainId F.plain_set_update_loop _]
    show wpAny _ A.in1 (pyNext (.ref J) >>= _) _ _ q
    refine wpAny_bind (W.done q _ _ at0 fun q2 mv => ?_)
    show wpAny _ A.in1 (ret Value.none) _ _ q2
    rw [show ns.take i = ns from List.take_of_length_le (by omega)] at hd
    exact wpAny_pure (out q2 d (mv.mono up) dle (hd.at fun o e => mv.heap T o nw e))
  | succ j ih =>
    intro i q e0 le0 at0 ⟨d, dle, hd⟩ out
    have lt0 : i < n := by omega
    refine codeAny_builtin F.entry_set_update_loop ?_
    rw [Around.under_plainId F.plain_set_update_loop _]
    show wpAny _ A.in1 (pyNext (.ref J) >>= _) _ _ q
    refine wpAny_bind (W.item i q _ _ lt0 at0 fun v q2 hV at1 mv => ?_)
    obtain ⟨y, u, hy, rfl⟩ := hv i v hV
    have hd2 : SetR w q2.heap T (fun y => decide (y ∈ ns.take i)) d := hd.at fun o e => mv.heap T o nw e
    have d1000 := setr_few hd2 fun k hk => hfew k (List.mem_of_mem_take (of_decide_eq_true hk))
    show wpAny _ A.in1 (holding [Value.int y u] (setAdd T (.int y u)) >>= _) _ _ q2
    refine wpAny_bind (wpAny_holding ?_)
    unfold setAdd
    refine wpAny_holding ?_
    refine wpAny_bind ((intKind P w).pyHash (k := y) (intKind_is _ _ _ _) ?_)
    refine setR_add_hashed (s := { q2 with toks := q2.toks + 1 }) hd2 (by unfold scanBound; omega) fun h3 sb hd3 => ?_
    have hd4 : SetR w h3 T (fun y => decide (y ∈ ns.take (i + 1))) (if decide (y ∈ ns.take i) = true then d else d + 1) := hd3.congr fun z => by
      rw [List.take_add_one, hy]
      simp [List.mem_append]
    have dle2 : (if decide (y ∈ ns.take i) = true then d else d + 1) ≤ i + 1 := by split <;> omega
    refine wpAny_pure ⟨plainId_quiet F.plain_set_update_loop _, ih (i + 1) _ (by omega) lt0 (W.frame _ q2 _ _ at1 (Nat.le_succ _) fun b hb o e => ?_) ⟨_, dle2, hd4⟩ fun q3 d2 mv2 dle3 hd5 => ?_⟩
    · rw [sb.2 b (fun h : b = T => hT (by rw [← h]; exact hb))]; exact e
    · refine out q3 d2 (Moved.trans W.gtrans ((mv.mono up).then_heap (Nat.le_succ _) fun b o hb e => ?_) mv2) dle3 hd5
      rw [sb.2 b (fun h : b = T => hb (by rw [h]; exact List.mem_cons_self))]; exact e
set_option maxHeartbeats 4000000 in
theorem set_of_few {l : Addr} {items : Array Value} (ns : List Int) {Q : Value → Shared → Prop} (hh : A.handled = none) (hl : s.heap.IsList l items) (hit : IntsAre items.toList ns) (hfew : ∀ k ∈ ns, 0 ≤ k ∧ k < ((1000 : Nat) : Int))
    (fin : ∀ (hp : Heap) (tk c : Nat), SetR w hp s.heap.objs.size (fun j => decide (j ∈ ns)) c → c ≤ ns.length → (∀ b o, s.heap.get? b = some o → hp.get? b = some o) → Q (.ref s.heap.objs.size) { s with heap := hp, toks := tk }) :
    wpAny (model P w) A (call (.type "set") [.ref l]) Q E s := by
  have hisz : items.size = ns.length := by rw [← Array.length_toList]; exact IntsAre.length hit
  obtain ⟨c, tl, hmro⟩ := F.called_set.mro
  have hmade := F.called_set.made
  have hsub := F.called_set.sub
  refine wpAny_call (codeAny_of_tree ?_)
  show wpAny _ _ (callAny (.type "set") _) _ _ _
  refine wpAny_pure ⟨Code.quiet_builtin _ (by decide +kernel), codeAny_builtin F.entry_type_call ?_⟩
  rw [Around.under_plain (weight_type_call_type "set" [.ref l] []) rfl]
  have h1 := F.called_set.notType
  have h2 := F.called_set.canCreate
  have hct := F.typeCall_set_1 (.ref l)
  repeat (any_goals (first | assumption | wp_step))
  have hS : (s.heap.push (obS w)).get? s.heap.objs.size = some (obS w) := Heap.get?_push_size _ rfl
  refine codeAny_mono (code_set_led1 (.ref l) (E := E) (Q₁ := fun ob t => ob = .ref s.heap.objs.size ∧ t = { s with heap := s.heap.push (obS w) }) ⟨rfl, rfl⟩) fun r t ht => ?_
  rcases r with e | fl
  · exact ht
  cases fl with
  | ret ob =>
    obtain ⟨rfl, rfl⟩ := ht
    have hT : Shared.TypeIs { s with heap := s.heap.push (obS w) } (.ref s.heap.objs.size) "set" := ⟨_, hS, rfl⟩
    have hli := F.called_set.init.lookup
    have hbi := F.called_set.init.bind (.ref s.heap.objs.size)
    repeat (any_goals (first | assumption | wp_step))
    refine codeAny_mono (codeAny_call_builtin (R := wants (fun r t => r = .none ∧ ∃ hp tk c, t = { s with heap := hp, toks := tk } ∧ SetR w hp s.heap.objs.size (fun j => decide (j ∈ ns)) c ∧ c ≤ ns.length ∧ (∀ b o, s.heap.get? b = some o → hp.get? b = some o)) E)
      F.called_set.init.plain F.entry_set_init (check_set_init_1 hT ?_)) fun r2 t2 ht2 => ?_
    · obtain ⟨ol, hol, hcl, nl, hdl⟩ := hl
      obtain ⟨ocls, odict, odata, oslots⟩ := ol
      simp only at hcl hdl
      subst hcl; subst hdl
      have hol2 : (s.heap.push (obS w)).get? l = some ⟨.type "list", odict, .seq items nl, oslots⟩ := Heap.get?_push_of_some _ hol
      have hl1 : (s.heap.push (obS w)).IsList l items := ⟨_, hol2, rfl, nl, rfl⟩
      have w1 := F.sub_list_set
      have w2 := F.sub_list_frozenset
      have w3 : (Value.type "list" == Value.type "dict") = false := by decide
      unfold Builtin.«set.__init__» noKeywords Builtin.Frozenset.updateFrom
      generalize hPI : pyIter = PI
      wp_walk
      subst hPI
      refine wpAny_pyIter_list hl1 ?_
      refine wpAny_bind (wpAny_runValue ?_)
      have hlS : l < s.heap.objs.size := Heap.lt_size hol
      have hh3 : A.in1.in1.in1.handled = none := by simp [hh]
      have hneI : l ≠ (s.heap.push (obS w)).objs.size := by rw [Heap.size_push]; exact Nat.ne_of_lt (Nat.lt_succ_of_lt hlS)
      have hSf : s.heap.objs.size ∉ [(s.heap.push (obS w)).objs.size, l] := by
        rw [Heap.size_push]
        simp only [List.mem_cons, List.not_mem_nil, or_false, not_or]
        exact And.intro (Nat.ne_of_lt (Nat.lt_succ_self _)) (Nat.ne_of_gt hlS)
      have hval : ∀ (i : Nat) (v : Value), items[i]? = some v → ∃ k t, ns[i]? = some k ∧ v = .int k t := fun i v hv => by
        have hi : i < ns.length := by rw [← hisz]; exact (Array.getElem?_eq_some_iff.mp hv).1
        obtain ⟨t, e⟩ := PyProof.Rows.IntsAre.int_at hit i v (by rw [Array.getElem?_toList]; exact hv)
        exact ⟨ns[i], t, List.getElem?_eq_getElem hi, by rw [e, List.getD_eq_getElem?_getD, List.getElem?_eq_getElem hi] <;> rfl⟩
      refine set_upd_few ((Walks.list hh3 _ l hneI items).toS) s.heap.objs.size hSf ns hisz hfew hval (items.size - 0) 0 _ (by omega) (Nat.zero_le _) ⟨⟨_, Heap.get?_push_size _ rfl, rfl, rfl⟩, (hl1.push _)⟩ ⟨0, Nat.le_refl 0, setR_new_at (Heap.get?_push_of_some _ hS)⟩ ?_
      intro t3 c3 hm hc3 hS3
      obtain ⟨hp, g2, d2, tk2, os2⟩ := t3
      have eg : g2 = s.gens := hm.gens
      have ed : d2 = s.drawn := hm.drawn
      have eo : os2 = s.os := hm.os
      subst eg ed eo
      show wpAny _ _ _ _ _ _
      refine wpAny_pure ?_
      show wpAny _ _ (ret Value.none) _ _ _
      refine wpAny_pure ⟨rfl, hp, tk2, c3, rfl, hS3, by rw [← hisz]; exact hc3, fun b o e => ?_⟩
      have hb0 : b < s.heap.objs.size := Heap.lt_size e
      refine hm.heap b o ?_ (Heap.get?_push_of_some _ (Heap.get?_push_of_some _ e))
      simp only [List.mem_cons, List.not_mem_nil, or_false, not_or]
      exact ⟨Nat.ne_of_lt hb0, by rw [Heap.size_push]; exact Nat.ne_of_lt (Nat.lt_succ_of_lt hb0)⟩
    · rcases r2 with e2 | fl2
      · exact ht2
      cases fl2 with
      | ret r3 =>
        obtain ⟨rfl, hp, tk, c2, rfl, hS2, hc2, hk2⟩ := ht2
        repeat (any_goals (first | assumption | wp_step))
        exact fin _ _ _ hS2 hc2 hk2
      | _ => exact ht2.elim
  | _ => exact ht.elim
end
def tLenSetF (K : PySem.W.Frag) (ta : TE) : TE := fun σ H Q => ta σ H fun x H1 => ∃ (l : Addr) (ns : List Int), x = .ref l ∧ SqL K H1 l (ns.map V.int) ∧ (∀ k ∈ ns, 0 ≤ k ∧ k < ((1000 : Nat) : Int)) ∧ ∀ ys : List Int, ys.Nodup → (∀ k, k ∈ ys ↔ k ∈ ns) → ys.length ≤ ns.length → Q (.int (ys.length : Nat)) H1
theorem pe_lenSetF {X : Cx} {a : Expr} {ta : TE} {p p2 q pos : Pos} (hg : Gl X "len") (hm : X.mg "len" = none) (hg2 : Gl X "set") (hm2 : X.mg "set" = none) (ha : PE X a ta) (hc : X.calm = true)
    (na : starEach [a] X.env = (false, eval a X.env) :: starEach [] X.env := by rfl) : PE X (.Call (.Name "len" p) [.Call (.Name "set" p2) [a] [] q] [] pos) (tLenSetF X.K ta) := by
  refine ⟨fun pins s σ H Q I h => ?_⟩
  refine Call_ (ld_blt I hg hm boot_len ?_)
  refine PyProof.Rows.callWith_builtin1 (PyProof.Rows.args_cons ?_ rfl) rfl rfl
  refine Call_ (ld_blt I hg2 hm2 boot_set ?_)
  refine PyProof.Rows.callWith_type1 (PyProof.Rows.args_cons (thn (ha.run pins s σ H _ I h) fun v s1 ⟨x, H1, I1, r1, q1⟩ => PyProof.Rows.args_nil ?_) na) na rfl
  obtain ⟨l, ns, rfl, hq, hl, q1⟩ := q1
  cases r1
  obtain ⟨its, r, pl, hz⟩ := I1.list hq
  refine set_of_few ns (I1.ok.hd hc) pl.isList r.ints hl fun h2 tk c hS hcl hk => ?_
  refine PyProof.Rows.args_nil ?_
  have I2 : Inv X pins σ H1 { s1 with heap := h2, toks := tk } := I1.kept fun b o e => hk b o e
  obtain ⟨o, es, ep, t, ho, hex, hd, g, nd, hmm, hb, hf, hn, hr, hll⟩ := hS
  have hkl : (es.toList.map keyOf).length = c := by rw [List.length_map]; exact hn
  have q2 := q1 (es.toList.map keyOf) nd (fun k => (hmm k).symm.trans (by simp)) (by rw [hkl]; exact hcl)
  rw [hkl] at q2
  exact call_len_set ho hex hd hf (by have h4 := hb; unfold scanBound at h4; omega) ⟨.int c, H1, I2.tok _, ⟨_, by rw [hn]⟩, q2⟩
section
variable {K : PySem.W.Frag} {Γ : Sl} {m : Mem} {Q : S → Mem → Prop} {te : TE}
theorem pe_lenSetFK {X : Cx} {a : Expr} {ta : TE} {p p2 q pos : Pos} (h : X.K = K) (hg : Gl X "len") (hm : X.mg "len" = none) (hg2 : Gl X "set") (hm2 : X.mg "set" = none) (ha : PE X a ta) (hc : X.calm = true)
    (na : starEach [a] X.env = (false, eval a X.env) :: starEach [] X.env := by rfl) : PE X (.Call (.Name "len" p) [.Call (.Name "set" p2) [a] [] q] [] pos) (tLenSetF K ta) := h ▸ pe_lenSetF hg hm hg2 hm2 ha hc na
theorem ar_lenSetF (h : AR K te Γ m fun x m1 => ∃ ns : List Int, x = .d (dI ns) ∧ (∀ k ∈ ns, 0 ≤ k ∧ k < ((1000 : Nat) : Int)) ∧ ∀ ys : List Int, ys.Nodup → (∀ k, k ∈ ys ↔ k ∈ ns) → ys.length ≤ ns.length → Q (.d (.int (ys.length : Nat))) m1) : AR K (tLenSetF K te) Γ m Q := fun σ F R H Q' g c k =>
  h σ F R H _ g c fun v x F1 m1 H1 e1 c1 r1 q1 => by
    obtain ⟨ns, rfl, hl, q⟩ := q1
    obtain ⟨p, vs, rfl, h1, h2⟩ := dp_list r1
    obtain rfl := ints_of h2
    exact ⟨p, ns, rfl, (cn_sub c1).seq h1, hl, fun ys h3 h4 h5 => k _ (.d (.int (ys.length : Nat))) F1 m1 H1 e1 c1 (Dq.int _) (q ys h3 h4 h5)⟩
end
end DL
namespace DL
open PySem PySem.Spec PyProof.Rows L2
/-! ### a slice whose upper bound may be None -/
def tPartO (t : TE) : TO := fun σ H Q => t σ H fun x H1 => (x = .non ∧ Q none H1) ∨ ∃ i, x = .int i ∧ Q (some i) H1
theorem po_opt {X : Cx} {e : Expr} {te : TE} (h : PE X e te) : PO X (some e) (tPartO te) := (by
  refine ⟨fun pins s σ H Q I hw => ?_⟩
  rw [evalPart_some]
  refine thn (h.run pins s σ H _ I hw) fun u s1 ⟨x, H1, I1, r1, q1⟩ => ?_
  rcases q1 with ⟨rfl, q⟩ | ⟨i, rfl, q⟩
  · obtain rfl : u = .none := r1
    exact ⟨none, H1, I1, .none, q⟩
  · obtain ⟨t, rfl⟩ := r1
    exact ⟨some i, H1, I1, .int i t, q⟩)
theorem aro_opt {K : PySem.W.Frag} {Γ : Sl} {m : Mem} {te : TE} {Q : Option Int → Mem → Prop} (h : AR K te Γ m fun x m1 => (x = .d .none ∧ Q none m1) ∨ ∃ i, x = .d (.int i) ∧ Q (some i) m1) : ARO K (tPartO te) Γ m Q := fun σ F R H Q' g c k =>
  h σ F R H _ g c fun v x F1 m1 H1 e1 c1 r1 q1 => by
    rcases q1 with ⟨rfl, q⟩ | ⟨i, rfl, q⟩
    · cases r1
      exact .inl ⟨rfl, k none F1 m1 H1 e1 c1 q⟩
    · cases r1
      exact .inr ⟨i, rfl, k (some i) F1 m1 H1 e1 c1 q⟩
end DL

namespace DL
open PySem PySem.Spec PyProof.Rows L2
/-! ### owned trees: lists and tuples of any shape, handed out as data and taken back -/
def NLC : C → Prop
  | .lst xs => ∀ x ∈ xs, NLS x
  | .tup xs => ∀ x ∈ xs, NLS x
  | .ins _ _ fs => ∀ f ∈ fs, NLS f.2
  | _ => False
def NLN (m : Mem) : Prop := ∀ a c, m a = some c → NLC c
/-- what may be borrowed: lists, and tuples with a borrowed list in them -/
def BkC (m m2 : Mem) (c : C) : Prop := (∃ ys, c = .lst ys) ∨ ∃ ys b zs, c = .tup ys ∧ S.r b ∈ ys ∧ m b = some (.lst zs) ∧ m2 b = none
def BkO (m m2 : Mem) : Prop := ∀ a c, m a = some c → m2 a = none → BkC m m2 c
mutual
theorem rp_tr {m m0 m2 m3 : Mem} (h : ∀ a c, m a = some c → m0 a = none → m2 a = some c ∧ m3 a = none) : ∀ {x : S} {d : PyData}, Rp m m0 x d → Rp m2 m3 x d
  | _, _, .d => .d
  | _, _, .lst h1 h2 hp => .lst (h _ _ h1 h2).1 (h _ _ h1 h2).2 (rps_tr h hp)
  | _, _, .tup h1 h2 hp => .tup (h _ _ h1 h2).1 (h _ _ h1 h2).2 (rps_tr h hp)
  | _, _, .dct h1 h2 hp => .dct (h _ _ h1 h2).1 (h _ _ h1 h2).2 (rps_tr h hp)
theorem rps_tr {m m0 m2 m3 : Mem} (h : ∀ a c, m a = some c → m0 a = none → m2 a = some c ∧ m3 a = none) : ∀ {xs : List S} {ds : List PyData}, Paired (Rp m m0) xs ds → Paired (Rp m2 m3) xs ds
  | _, _, .nil => .nil
  | _, _, .cons q qs => .cons (rp_tr h q) (rps_tr h qs)
end
section
variable {K : PySem.W.Frag} {Γ : Sl} {m : Mem} {Q : S → Mem → Prop}
theorem dqa_mem {F : Hp} : ∀ {vs : List V} {ds : List PyData} {v : V}, DqAll K F vs ds → v ∈ vs → ∃ d ∈ ds, Dq K F v d
  | _, _, _, .cons h hs, hv => by
    rcases List.mem_cons.mp hv with rfl | hv
    · exact ⟨_, List.mem_cons_self, h⟩
    · obtain ⟨d, h1, h2⟩ := dqa_mem hs hv
      exact ⟨d, List.mem_cons_of_mem _ h1, h2⟩
theorem nl_noref {F : Hp} {vs : List V} {ds : List PyData} {b : Addr} {us : List V} (hn : ∀ d ∈ ds, NL d) (h : DqAll K F vs ds) (hv : V.ref b ∈ vs) (hb : F b = some (.lst us)) : False := (by
  obtain ⟨d, h1, h2⟩ := dqa_mem h hv
  have h3 := hn d h1
  cases h2 with
  | lst _ _ => cases h3
  | tup e _ => rw [hb] at e; cases e
  | dct e _ => rw [hb] at e; cases e)
/-- where the borrowed stand, frozen -/
def BkF (m m2 : Mem) (F : Hp) : Prop := ∀ a, (m a).isSome → m2 a = none → (∃ vs, F a = some (.lst vs)) ∨ ∃ vs b us, F a = some (.tup vs) ∧ V.ref b ∈ vs ∧ F b = some (.lst us)
mutual
theorem nlD_dq {m m2 : Mem} {F : Hp} (hb : BkF m m2 F) : ∀ {v : V} {d : PyData}, NL d → Dq K F v d → Dq K (bkF m m2 F) v d
  | _, _, _, .non => .non
  | _, _, _, .bl b => .bl b
  | _, _, _, .int i => .int i
  | _, _, _, .str x => .str x
  | _, _, h, .lst _ _ => by cases h
  | _, _, h, .dct _ _ => by cases h
  | _, _, h, .tup (a := a) h1 h2 => by
    cases h with
    | tup hn =>
      refine .tup ?_ (nlD_dqa hb hn h2)
      unfold bkF
      rw [if_neg]
      · exact h1
      · rintro ⟨x, y⟩
        rcases hb a x y with ⟨vs, e⟩ | ⟨vs, b, us, e, hm, e2⟩
        · rw [e] at h1; cases h1
        · rw [h1] at e
          cases e
          exact nl_noref hn h2 hm e2
theorem nlD_dqa {m m2 : Mem} {F : Hp} (hb : BkF m m2 F) : ∀ {vs : List V} {ds : List PyData}, (∀ d ∈ ds, NL d) → DqAll K F vs ds → DqAll K (bkF m m2 F) vs ds
  | _, _, _, .nil => .nil
  | _, _, h, .cons h1 h2 => .cons (nlD_dq hb (h _ List.mem_cons_self) h1) (nlD_dqa hb (fun d hd => h d (List.mem_cons_of_mem _ hd)) h2)
end
theorem nlD_rs {m m2 : Mem} {F : Hp} (hb : BkF m m2 F) {v : V} {x : S} (h : NLS x) (r : RS K F v x) : RS K (bkF m m2 F) v x := (by
  cases h with
  | d h => exact nlD_dq hb h r
  | r => exact r)
theorem nlD_rss {m m2 : Mem} {F : Hp} (hb : BkF m m2 F) : ∀ {vs : List V} {xs : List S}, (∀ x ∈ xs, NLS x) → RSs K F vs xs → RSs K (bkF m m2 F) vs xs
  | _, _, _, .nil => .nil
  | _, _, h, .cons h1 h2 => .cons (nlD_rs hb (h _ List.mem_cons_self) h1) (nlD_rss hb (fun x hx => h x (List.mem_cons_of_mem _ hx)) h2)
theorem nlD_flds {m m2 : Mem} {F : Hp} (hb : BkF m m2 F) : ∀ {vs : List (Str × V)} {xs : List (Str × S)}, (∀ f ∈ xs, NLS f.2) → Paired (fun (p : Str × V) (q : Str × S) => p.1 = q.1 ∧ RS K F p.2 q.2) vs xs → Paired (fun (p : Str × V) (q : Str × S) => p.1 = q.1 ∧ RS K (bkF m m2 F) p.2 q.2) vs xs
  | _, _, _, .nil => .nil
  | _, _, h, .cons h1 h2 => .cons ⟨h1.1, nlD_rs hb (h _ List.mem_cons_self) h1.2⟩ (nlD_flds hb (fun x hx => h x (List.mem_cons_of_mem _ hx)) h2)
theorem nlD_rc {m m2 : Mem} {F : Hp} (hb : BkF m m2 F) {o : HO} {c : C} (h : NLC c) (r : RC K F o c) : RC K (bkF m m2 F) o c := (by
  cases c with
  | lst xs => cases o with
    | lst ws => exact nlD_rss hb h r
    | _ => exact r.elim
  | tup xs => cases o with
    | tup ws => exact nlD_rss hb h r
    | _ => exact r.elim
  | ins C dx fs => cases o with
    | ins C' dx' ws => exact ⟨r.1, r.2.1, nlD_flds hb h r.2.2⟩
    | _ => exact r.elim
  | _ => exact h.elim)
theorem pr_mem {α β : Type} {P : α → β → Prop} : ∀ {as : List α} {bs : List β} {b : β}, Paired P as bs → b ∈ bs → ∃ a ∈ as, P a b
  | _, _, _, .cons h hs, hb => by
    rcases List.mem_cons.mp hb with rfl | hb
    · exact ⟨_, List.mem_cons_self, h⟩
    · obtain ⟨a, h1, h2⟩ := pr_mem hs hb
      exact ⟨a, List.mem_cons_of_mem _ h1, h2⟩
theorem frz_bk {mo m2 : Mem} {F R H : Hp} {mc : Mem} (c : Cn K mc F R H) (hmc : ∀ a x, mo a = some x → mc a = some x) (hk : BkO mo m2) : BkF mo m2 (frzF mo m2 F H) := fun a h1 h2 => by
  obtain ⟨x, hx⟩ := Option.isSome_iff_exists.mp h1
  obtain ⟨_, _, o, ho, rc⟩ := c.own a x (hmc a x hx)
  have ef : ∀ b y o, mo b = some y → m2 b = none → H b = some o → frzF mo m2 F H b = some o := fun b y o hy h2 ho => by
    unfold frzF
    rw [if_pos ⟨by rw [hy]; rfl, h2⟩]; exact ho
  rcases hk a x hx h2 with ⟨ys, rfl⟩ | ⟨ys, b, zs, rfl, hb, hz, hz2⟩
  · cases o with
    | lst ws => exact .inl ⟨ws, ef _ _ _ hx h2 ho⟩
    | _ => exact rc.elim
  · cases o with
    | tup ws =>
      obtain ⟨v, hv, rv⟩ := pr_mem rc hb
      obtain rfl : v = .ref b := rv
      obtain ⟨_, _, o2, ho2, rc2⟩ := c.own b _ (hmc b _ hz)
      cases o2 with
      | lst us => exact .inr ⟨ws, b, us, ef _ _ _ hx h2 ho, hv, ef _ _ _ hz hz2 ho2⟩
      | _ => exact rc2.elim
    | _ => exact rc.elim
def rsF (m2 : Mem) (R H : Hp) : Hp := fun a => if (m2 a).isSome then H a else R a
theorem jn_some {mo mk : Mem} {a : Addr} {c : C} (h : mk a = some c) : jn mo mk a = some c := by unfold jn; rw [h]
theorem jn_no {mo mk : Mem} {a : Addr} (h : mk a = none) : jn mo mk a = mo a := by unfold jn; rw [h]
theorem brw_same {mo mk m2 : Mem} {F R H : Hp} (c : Cn K (jn mo mk) F R H) (hd : ∀ a x, mo a = some x → mk a = none) : Same F (frzF mo m2 F H) := fun a o e => by
  unfold frzF
  rw [if_neg]
  · exact e
  · rintro ⟨h1, _⟩
    obtain ⟨x, hx⟩ := Option.isSome_iff_exists.mp h1
    have h2 := (c.own a x (by rw [jn_no (hd a x hx)]; exact hx)).1
    rw [h2] at e; cases e
/-- lent: all that is owned is hidden but what is handed over, the borrowed frozen -/
theorem brw_in {mo mk m2 : Mem} {F R H : Hp} (c : Cn K (jn mo mk) F R H) (l : Le m2 mo) (hd : ∀ a x, mo a = some x → mk a = none) : Cn K mk (frzF mo m2 F H) (rsF m2 R H) H := (by
  have hmo : ∀ a x, mo a = some x → jn mo mk a = some x := fun a x hx => by rw [jn_no (hd a x hx)]; exact hx
  have h2o : ∀ a x, m2 a = some x → mo a = some x := fun a x hx => by
    rcases l a with q | q
    · rw [← q]; exact hx
    · rw [q] at hx; cases hx
  refine ⟨fun a x e => ?_, fun a o e => ?_, fun a e1 e2 => ?_⟩
  · obtain ⟨h1, h2, o, ho, rc⟩ := c.own a x (jn_some e)
    have hmn : mo a = none := by
      cases hm : mo a with
      | none => rfl
      | some y => rw [hd a y hm] at e; cases e
    have hm2 : m2 a = none := by
      cases hm : m2 a with
      | none => rfl
      | some y => rw [h2o a y hm] at hmn; cases hmn
    refine ⟨?_, ?_, o, ho, rc_mono (brw_same c hd) rc⟩
    · unfold frzF
      rw [if_neg (by rw [hmn]; simp)]; exact h1
    · unfold rsF
      rw [hm2]; exact h2
  · unfold rsF at e
    cases hm2 : m2 a with
    | some x =>
      rw [hm2] at e
      have e : H a = some o := e
      refine ⟨?_, e⟩
      unfold frzF
      rw [if_neg (by rw [hm2]; simp)]
      exact (c.own a x (hmo a x (h2o a x hm2))).1
    | none =>
      rw [hm2] at e
      have e : R a = some o := e
      obtain ⟨h1, h2⟩ := c.hid a o e
      refine ⟨?_, h2⟩
      unfold frzF
      rw [if_neg]
      · exact h1
      · rintro ⟨h3, _⟩
        obtain ⟨x, hx⟩ := Option.isSome_iff_exists.mp h3
        have := (c.own a x (hmo a x hx)).2.1
        rw [e] at this; cases this
  · unfold rsF at e2
    cases hm2 : m2 a with
    | some x =>
      rw [hm2] at e2
      have e2 : H a = none := e2
      obtain ⟨_, _, o, ho, _⟩ := c.own a x (hmo a x (h2o a x hm2))
      rw [e2] at ho; cases ho
    | none =>
      rw [hm2] at e2
      have e2 : R a = none := e2
      unfold frzF
      cases hm : mo a with
      | some x => rw [if_pos ⟨rfl, hm2⟩]
      | none =>
        rw [if_neg (by simp)]
        exact c.oth a (by rw [jn_no e1]; exact hm) e2)
/-- taken back -/
theorem brw_out {mo mk m2 m' : Mem} {F R H F' H' : Hp} (c : Cn K (jn mo mk) F R H) (l : Le m2 mo) (hd : ∀ a x, mo a = some x → mk a = none) (hk : BkO mo m2) (e : Same (frzF mo m2 F H) F') (c' : Cn K m' F' (rsF m2 R H) H') (hm : NLN m') :
    Cn K (jn mo m') (bkF mo m2 F') R H' ∧ Same F (bkF mo m2 F') ∧ (∀ a x, m' a = some x → mo a = none) ∧ BkF mo m2 F' := by
  have hmo : ∀ a x, mo a = some x → jn mo mk a = some x := fun a x hx => by rw [jn_no (hd a x hx)]; exact hx
  have hB : BkF mo m2 F' := fun a h1 h2 => by
    rcases frz_bk c hmo hk a h1 h2 with ⟨vs, h⟩ | ⟨vs, b, us, h, h3, h4⟩
    · exact .inl ⟨vs, e _ _ h⟩
    · exact .inr ⟨vs, b, us, e _ _ h, h3, e _ _ h4⟩
  have hsm : Same F (bkF mo m2 F') := fun a o ho => by
    have h1 := e _ _ (brw_same (m2 := m2) c hd a o ho)
    unfold bkF
    rw [if_neg]
    · exact h1
    · rintro ⟨h2, _⟩
      obtain ⟨x, hx⟩ := Option.isSome_iff_exists.mp h2
      have := (c.own a x (hmo a x hx)).1
      rw [ho] at this; cases this
  have hnew : ∀ a x, m' a = some x → mo a = none := fun a x hx => by
    obtain ⟨h1, h2, _⟩ := c'.own a x hx
    cases hmo1 : mo a with
    | none => rfl
    | some z =>
      exfalso
      cases hm2 : m2 a with
      | none =>
        rcases hB a (by rw [hmo1]; rfl) hm2 with ⟨vs, hv⟩ | ⟨vs, _, _, hv, _⟩ <;> (rw [h1] at hv; cases hv)
      | some y =>
        unfold rsF at h2
        rw [hm2] at h2
        have h2 : H a = none := h2
        obtain ⟨_, _, o, ho, _⟩ := c.own a z (hmo a z hmo1)
        rw [h2] at ho; cases ho
  refine ⟨⟨fun a y ey => ?_, fun a o eo => ?_, fun a ea er => ?_⟩, hsm, hnew, hB⟩
  · cases hm' : m' a with
    | some z =>
      rw [jn_some hm'] at ey
      cases ey
      obtain ⟨h1, h2, o, ho, rc⟩ := c'.own a _ hm'
      have hn := hnew a _ hm'
      refine ⟨?_, ?_, o, ho, nlD_rc hB (hm a _ hm') rc⟩
      · unfold bkF; split
        · rfl
        · exact h1
      · have hm2 : m2 a = none := by
          rcases l a with q | q
          · rw [q]; exact hn
          · exact q
        unfold rsF at h2
        rw [hm2] at h2
        exact h2
    | none =>
      rw [jn_no hm'] at ey
      obtain ⟨h1, h2, o, ho, rc⟩ := c.own a y (hmo a y ey)
      refine ⟨?_, h2, o, ?_, rc_mono hsm rc⟩
      · unfold bkF
        split
        · rfl
        · rename_i hs
          cases hm2 : m2 a with
          | none => exact absurd ⟨by rw [ey]; rfl, hm2⟩ hs
          | some z => exact (c'.hid a o (by unfold rsF; rw [hm2]; exact ho)).1
      · cases hm2 : m2 a with
        | none =>
          have hf : frzF mo m2 F H a = some o := by unfold frzF; rw [if_pos ⟨by rw [ey]; rfl, hm2⟩]; exact ho
          exact cn_sub c' _ _ (e _ _ hf)
        | some z => exact (c'.hid a o (by unfold rsF; rw [hm2]; exact ho)).2
  · have hm1 : mo a = none := by
      cases hm1 : mo a with
      | none => rfl
      | some z =>
        have := (c.own a z (hmo a z hm1)).2.1
        rw [eo] at this; cases this
    have hm2 : m2 a = none := by
      rcases l a with q | q
      · rw [q, hm1]
      · exact q
    obtain ⟨h1, h2⟩ := c'.hid a o (by unfold rsF; rw [hm2]; exact eo)
    refine ⟨?_, h2⟩
    unfold bkF
    split
    · rfl
    · exact h1
  · cases hm' : m' a with
    | some z => rw [jn_some hm'] at ea; cases ea
    | none =>
      rw [jn_no hm'] at ea
      have hm2 : m2 a = none := by
        rcases l a with q | q
        · rw [q]; exact ea
        · exact q
      rw [c'.oth a hm' (by unfold rsF; rw [hm2]; exact er)]
      unfold bkF
      rw [if_neg]
      rintro ⟨h1, _⟩
      rw [ea] at h1; cases h1
/-- what is asked behind a call of borrowed trees -/
def BQD (Q : S → Mem → Prop) (m1 : Mem) : S → Mem → Prop := fun x m' => NLS x ∧ NLN m' ∧ ((∀ a c, m' a = some c → m1 a = none) → Q x (jn m1 m'))
theorem ar_brwD {fs : FS} {E : XK} {t : TA} (h : ARA K t Γ m fun xs m1 => ∃ (ds : List PyData) (m2 : Mem), Le m2 m1 ∧ BkO m1 m2 ∧ Paired (Rp m1 m2) xs ds ∧ fs (ds.map S.d) em (BQD Q m1)) : AR K (tBrw (tCall (toSp K fs) [] E t)) Γ m Q := fun σ F R H Q' g c k =>
  h σ F R H _ g c fun vs xs F1 m1 H1 e1 c1 r1 ⟨ds, m2, l, hk, hp, q1⟩ => by
    show toSp K fs (vs ++ []) H1 Q' E
    rw [List.append_nil]
    have c1' : Cn K (jn m1 em) F1 R H1 := by rw [jn_em]; exact c1
    have hd : ∀ a x, m1 a = some x → em a = none := fun _ _ _ => rfl
    refine ⟨_, _, em, ds.map S.d, _, brw_in c1' l hd, rps_rs c1 hp r1, q1, fun v x F' m' H' e c' r ⟨hx, hm, q⟩ => ?_⟩
    obtain ⟨c2, hsm, hnew, hB⟩ := brw_out c1' l hd hk e c' hm
    exact k v x _ _ H' (e1.trans hsm) c2 (nlD_rs hB hx r) (q hnew)
theorem ar_makeD {C : Addr} {n : Nat} {fs : FS} {E : XK} {t : TA} (h : ARA K t Γ m fun xs m1 => ∃ (ds : List PyData) (m2 : Mem), Le m2 m1 ∧ BkO m1 m2 ∧ Paired (Rp m1 m2) xs ds ∧ ∀ p dx, m1 p = none → LF n fs (.r p :: ds.map S.d) (mset em p (.ins C dx [])) fun x m' => x = .d .none ∧ NLN m' ∧ ((∀ a c, m' a = some c → m1 a = none) → Q (.r p) (jn m1 m'))) : AR K (tBrw (tMake C (toSp K (LF n fs)) [] E t)) Γ m Q := fun σ F R H Q' g c k =>
  h σ F R H _ g c fun us xs F1 m1 H1 e1 c1 r1 ⟨ds, m2, l, hk, hp, q1⟩ => fun p dx hp0 hdx ne => by
    show toSp K (LF n fs) (.ref p :: (us ++ [])) _ _ E
    rw [List.append_nil]
    have c2 := cn_newF (o := .own p) c1 hdx
    have hp2 : upd H1 dx (.own p) p = none := by rw [upd_ne (Ne.symm ne)]; exact hp0
    have c3 := cn_newO (o := .ins C dx []) (x := .ins C dx []) c2 hp2 ⟨rfl, rfl, .nil⟩
    have e2 := same_new (o := .own p) (cn_fresh c1 hdx).1
    have hmp := (cn_fresh c1 hp0).2.1
    have ej : jn m1 (mset em p (.ins C dx [])) = mset m1 p (.ins C dx []) := by rw [jn_set, jn_em]
    rw [← ej] at c3
    have hd : ∀ a x, m1 a = some x → mset em p (.ins C dx []) a = none := fun a x hx => by
      rw [mset_ne (ne_mem hx hmp)]; rfl
    have hsz : Same (frzF m1 m2 F1 H1) (frzF m1 m2 (upd F1 dx (.own p)) (upd (upd H1 dx (.own p)) p (.ins C dx []))) := fun a o ho => by
      unfold frzF at ho ⊢
      split
      · rename_i hh
        rw [if_pos hh] at ho
        obtain ⟨x, hx⟩ := Option.isSome_iff_exists.mp hh.1
        have n1 : a ≠ p := fun ee => by rw [ee, hmp] at hx; cases hx
        have n2 : a ≠ dx := fun ee => by rw [ee, (cn_fresh c1 hdx).2.1] at hx; cases hx
        rw [upd_ne n1, upd_ne n2]; exact ho
      · rename_i hh
        rw [if_neg hh] at ho
        exact e2 _ _ ho
    refine ⟨_, _, mset em p (.ins C dx []), .r p :: ds.map S.d, _, brw_in c3 l hd, .cons rfl (rss_mono hsz (rps_rs c1 hp r1)), q1 p dx hmp, fun v x F' m' H' e c' r ⟨hx, hm, q⟩ => ?_⟩
    obtain ⟨c4, hsm, hnew, hB⟩ := brw_out c3 l hd hk e c' hm
    subst hx
    cases r
    exact ⟨rfl, k (.ref p) (.r p) _ _ H' ((e1.trans e2).trans hsm) c4 rfl (q hnew)⟩
/-- an operator asked of borrowed trees, that tells a bool -/
theorem lo_brw {r : R2} {x y : S} {dx dy : PyData} {b : Bool} {m2 : Mem} (l : Le m2 m) (hk : BkO m m2) (hx : Rp m m2 x dx) (hy : Rp m m2 y dy) (h : LO K r (.d dx) (.d dy) em fun z m' => z = .d (.bool b) ∧ m' = em) (q : Q (.d (.bool b)) m) : LO K r x y m Q := fun v u F R H Q' rx ry c k => by
  have c1 : Cn K (jn m em) F R H := by rw [jn_em]; exact c
  have hd : ∀ a x, m a = some x → em a = none := fun _ _ _ => rfl
  refine h v u _ _ H Q' (rp_dp c hx rx) (rp_dp c hy ry) (brw_in c1 l hd) fun w z F' m' H' e c' rz hz => ?_
  obtain ⟨rfl, rfl⟩ := hz
  obtain ⟨c2, hsm, hnew, hB⟩ := brw_out c1 l hd hk e c' (fun a c h => by cases (show (none : Option C) = some c from h))
  rw [jn_em] at c2
  cases rz
  exact k _ (.d (.bool b)) _ m H' hsm c2 (Dq.bl b) q
/-- an instance's fields, frozen -/
inductive FzF (m m2 : Mem) : List (Str × S) → List (Str × S) → Prop
  | nil : FzF m m2 [] []
  | same {k : Str} {x : S} {fs fs' : List (Str × S)} : FzF m m2 fs fs' → FzF m m2 ((k, x) :: fs) ((k, x) :: fs')
  | frz {k : Str} {x : S} {d : PyData} {fs fs' : List (Str × S)} : Rp m m2 x d → FzF m m2 fs fs' → FzF m m2 ((k, x) :: fs) ((k, .d d) :: fs')
theorem fzf_rc {m m2 : Mem} {F R H : Hp} (c : Cn K m F R H) : ∀ {vs : List (Str × V)} {fs fs' : List (Str × S)}, FzF m m2 fs fs' → Paired (fun (p : Str × V) (q : Str × S) => p.1 = q.1 ∧ RS K F p.2 q.2) vs fs → Paired (fun (p : Str × V) (q : Str × S) => p.1 = q.1 ∧ RS K (frzF m m2 F H) p.2 q.2) vs fs'
  | _, _, _, .nil, .nil => .nil
  | _, _, _, .same h, .cons q qs => .cons ⟨q.1, rs_mono (frzF_same c) q.2⟩ (fzf_rc c h qs)
  | _, _, _, .frz hr h, .cons q qs => .cons ⟨q.1, rp_dp c hr q.2⟩ (fzf_rc c h qs)
theorem cn_fzf {m m2 : Mem} {F R H : Hp} {p C dx : Addr} {fs fs' : List (Str × S)} (c : Cn K m F R H) (l : Le m2 m) (hp : m2 p = some (.ins C dx fs)) (h : FzF m m2 fs fs') : Cn K (mset m2 p (.ins C dx fs')) (frzF m m2 F H) R H := (by
  have cz := cn_frz c l
  have hmp : m p = some (.ins C dx fs) := by
    rcases l p with q | q
    · rw [← q]; exact hp
    · rw [q] at hp; cases hp
  refine ⟨fun a x e => ?_, cz.hid, fun a e1 e2 => ?_⟩
  · by_cases ne : a = p
    · subst ne
      rw [mset_same] at e
      cases e
      obtain ⟨h1, h2, _⟩ := cz.own a _ hp
      obtain ⟨_, _, o, ho, rc⟩ := c.own a _ hmp
      refine ⟨h1, h2, o, ho, ?_⟩
      cases o with
      | ins C' dx' ws => exact ⟨rc.1, rc.2.1, fzf_rc c h rc.2.2⟩
      | _ => exact rc.elim
    · rw [mset_ne ne] at e
      exact cz.own a x e
  · by_cases ne : a = p
    · subst ne; rw [mset_same] at e1; cases e1
    · rw [mset_ne ne] at e1
      exact cz.oth a e1 e2)
theorem ars_fzf {m2 : Mem} {t : TS} {D : AD} {p C dx : Addr} {fs fs' : List (Str × S)} (l : Le m2 m) (hp : m2 p = some (.ins C dx fs)) (hf : FzF m m2 fs fs') (h : ARS K t Γ (mset m2 p (.ins C dx fs')) D) : ARS K t Γ m D := fun σ F R H D' g c k =>
  h σ _ R H D' (rg_mono (frzF_same c) g) (cn_fzf c l hp hf) (k.mono (frzF_same c))
theorem ar_fzf {te : TE} (h : AR K te Γ m fun x m1 => ∃ (m2 : Mem) (p C dx : Addr) (fs fs' : List (Str × S)), x = .r p ∧ Le m2 m1 ∧ m2 p = some (.ins C dx fs) ∧ FzF m1 m2 fs fs' ∧ Q (.r p) (mset m2 p (.ins C dx fs'))) : AR K te Γ m Q := fun σ F R H Q' g c k =>
  h σ F R H _ g c fun v x F1 m1 H1 e1 c1 r1 q1 => by
    obtain ⟨m2, p, C, dx, fs, fs', rfl, l, hp, hf, q⟩ := q1
    exact k v (.r p) _ _ H1 (e1.trans (frzF_same c1)) (cn_fzf c1 l hp hf) r1 q
/-! ### trees newly made -/
structure OT (m m' : Mem) (x : S) (d : PyData) : Prop where
  le : Le m m'
  rp : Rp m' m x d
  nw : ∀ a c, m' a = some c → m a = none → NLC c
  nl : NLS x
structure OTs (m m' : Mem) (xs : List S) (ds : List PyData) : Prop where
  le : Le m m'
  rp : Paired (Rp m' m) xs ds
  nw : ∀ a c, m' a = some c → m a = none → NLC c
  nl : ∀ x ∈ xs, NLS x
theorem le_up {m m' : Mem} (l : Le m m') {a : Addr} {c : C} (h : m a = some c) : m' a = some c := (by
  rcases l a with q | q
  · rw [← q]; exact h
  · rw [q] at h; cases h)
theorem le_dn {m m' : Mem} (l : Le m m') {a : Addr} (h : m' a = none) : m a = none := (by
  rcases l a with q | q
  · rw [q]; exact h
  · exact q)
theorem ot_d {d : PyData} (h : NL d) : OT m m (.d d) d := ⟨Le.refl m, .d, fun a c h1 h2 => (by rw [h1] at h2; cases h2), .d h⟩
theorem ots_nil : OTs m m [] [] := ⟨Le.refl m, .nil, fun a c h1 h2 => (by rw [h1] at h2; cases h2), fun x h => nomatch h⟩
theorem ots_snoc {m m1 m2 : Mem} {xs : List S} {ds : List PyData} {x : S} {d : PyData} (h : OTs m m1 xs ds) (o : OT m1 m2 x d) : OTs m m2 (xs ++ [x]) (ds ++ [d]) where
  le := h.le.trans o.le
  rp := pr_app (rps_tr (fun a c h1 h2 => ⟨le_up o.le h1, h2⟩) h.rp) (.cons (rp_tr (fun a c h1 h2 => ⟨h1, le_dn h.le h2⟩) o.rp) .nil)
  nw := fun a c h1 h2 => by
    cases e : m1 a with
    | none => exact o.nw a c h1 e
    | some c' =>
      have := le_up o.le e
      rw [h1] at this
      cases this
      exact h.nw a c e h2
  nl := fun y hy => (List.mem_append.mp hy).elim (h.nl y) fun e => by rw [List.mem_singleton.mp e]; exact o.nl
theorem ots_mset {m m1 : Mem} {p : Addr} {c : C} {xs : List S} {ds : List PyData} (h : OTs m m1 xs ds) (hp : m1 p = none) (hc : NLC c) : OTs m (mset m1 p c) xs ds where
  le := Le.sets h.le (le_dn h.le hp)
  rp := rps_tr (fun a c' h1 h2 => ⟨by rw [mset_ne (ne_mem h1 hp)]; exact h1, h2⟩) h.rp
  nw := fun a c' h1 h2 => by
    by_cases e : a = p
    · subst e; rw [mset_same] at h1; cases h1; exact hc
    · rw [mset_ne e] at h1; exact h.nw a c' h1 h2
  nl := h.nl
theorem ot_l {m m1 : Mem} {p : Addr} {xs : List S} {ds : List PyData} (h : OTs m m1 xs ds) (hp : m1 p = none) : OT m (mset m1 p (.lst xs)) (.r p) (.list ds) :=
  have h2 := ots_mset (c := .lst xs) h hp h.nl
  ⟨h2.le, .lst mset_same (le_dn h.le hp) h2.rp, h2.nw, .r⟩
theorem ot_t {m m1 : Mem} {p : Addr} {xs : List S} {ds : List PyData} (h : OTs m m1 xs ds) (hp : m1 p = none) : OT m (mset m1 p (.tup xs)) (.r p) (.tuple ds) :=
  have h2 := ots_mset (c := .tup xs) h hp h.nl
  ⟨h2.le, .tup mset_same (le_dn h.le hp) h2.rp, h2.nw, .r⟩
theorem ot_r {m m' : Mem} {x : S} {ds : List PyData} (h : OT m m' x (.list ds)) : ∃ a, x = .r a := (by
  cases x with
  | r a => exact ⟨a, rfl⟩
  | d d =>
    have h1 := h.rp
    have h2 := h.nl
    cases h1
    cases h2 with
    | d h => cases h
  | t n => cases h.nl
  | scr ns => cases h.nl
  | x C fs => cases h.nl)
/-- a comprehension that makes a list of owned things -/
theorem ar_lcOL {wi : TI} {g : TG} {tt : TT} {te : TE} {ws : List Nat} (h : ARI K wi Γ m fun ds G m1 => LCL K g tt te ws Γ Q ds G m1) : AR K (tOwn (tLc wi g tt te ws)) Γ m Q := ar_lc h
theorem lc_own {g : TG} {tt : TT} {te : TE} {ws : List Nat} {ds : List S} {G : Mem → Prop} {m1 : Mem} {α : Type} (xs : List α) (F : α → S) (hds : ds = xs.map F) (J : List α → List S → Mem → Prop) (hn : xs.length ≤ 900000) (hG : ∀ pre acc m', J pre acc m' → G m') (h0 : J [] [] m1)
    (hs : ∀ pre x post acc m', xs = pre ++ x :: post → J pre acc m' → ARGw K ws g (F x) (wipeS Γ ws) m' fun Γ2 m2 => ART K tt Γ2 m2 fun b m3 => if b = true then AR K te Γ2 m3 fun y m4 => J (pre ++ [x]) (acc ++ [y]) m4 else J (pre ++ [x]) acc m3)
    (q : ∀ acc m', J xs acc m' → acc.length ≤ xs.length → ∀ p, m' p = none → Q (.r p) (mset m' p (.lst acc))) : LCL K g tt te ws Γ Q ds G m1 := by
  subst hds
  refine ⟨by rw [List.length_map]; exact hn, fun i acc m' => J (xs.take i) acc m', h0, fun i x acc m' hx hj => ?_, fun acc m' hj hl => ?_⟩
  · rw [List.getElem?_map] at hx
    cases e : xs[i]? with
    | none => rw [e] at hx; cases hx
    | some y =>
      rw [e] at hx; cases hx
      refine ⟨hG _ _ _ hj, ?_⟩
      have z := hs _ y _ acc m' (take_pre e) hj
      rw [← take_snoc e] at z
      exact z
  · have hj : J (xs.take (xs.map F).length) acc m' := hj
    rw [List.length_map, List.take_length] at hj
    rw [List.length_map] at hl
    exact ⟨hG _ _ _ hj, q acc m' hj hl⟩
theorem tup_oO {p : Addr} {acc : List S} (hm : m p = some (.lst acc)) (q : ∀ l, m l = none → Q (.r l) (mset m l (.tup acc))) : LB K (rTupOf K) [.r p] m Q := fun vs F R H Q' a c k => by
  cases a with
  | cons a d =>
    cases d
    obtain rfl := a
    obtain ⟨ws, hv, rs⟩ := own_lst c hm
    exact ⟨p, ws, rfl, .inl ⟨.inl (.inl hv), fun l hl => k _ (.r l) F _ _ (Same.refl F) (cn_newO (o := .tup ws) (x := .tup acc) c hl rs) rfl (q l (cn_fresh c hl).2.1)⟩⟩
theorem ix_tO {p : Addr} {xs : List S} {i : Int} {x : S} (hm : m p = some (.tup xs)) (h : atI xs i = some x) (q : Q x m) : LO K (rIX K) (.r p) (.d (.int i)) m Q := lo_r (lo_l fun v u F R H Q' a b c k => by
  cases a; cases b
  obtain ⟨vs, hv, rv⟩ := own_tup c hm
  obtain ⟨v, h1, h2⟩ := rss_at rv h
  exact ⟨p, vs, i, v, rfl, rfl, .inl (.inl hv), h1, k v x F m H (Same.refl F) c h2 q⟩)
/-! ### a tree laid over the rest -/
theorem jn_le {m t : Mem} (hd : ∀ a c, t a = some c → m a = none) : Le m (jn m t) := fun a => by
  cases h : t a with
  | none => exact .inl (jn_no h).symm
  | some c => exact .inr (hd a c h)
theorem jn_rp {m t : Mem} (hd : ∀ a c, t a = some c → m a = none) {x : S} {d : PyData} (h : Rp t em x d) : Rp (jn m t) m x d := rp_tr (fun a c h1 _ => ⟨jn_some h1, hd a c h1⟩) h
theorem jn_bk {m t : Mem} (hd : ∀ a c, t a = some c → m a = none) (h : BkO t em) : BkO (jn m t) m := fun a c h1 h2 => by
  cases e : t a with
  | none => rw [jn_no e, h2] at h1; cases h1
  | some c' =>
    rw [jn_some e] at h1
    cases h1
    rcases h a c e rfl with h3 | ⟨ys, b, zs, h4, h5, h6, _⟩
    · exact .inl h3
    · exact .inr ⟨ys, b, zs, h4, h5, jn_some h6, hd b _ h6⟩
theorem jn_base {m t : Mem} {a : Addr} {c : C} (h : t a = none) : mset (jn m t) a c = jn (mset m a c) t := (by
  funext b
  unfold mset jn
  by_cases e : b = a
  · subst e; rw [if_pos rfl, h]; simp
  · simp only [if_neg e])
theorem jn_jn {m t u : Mem} : jn (jn m t) u = jn m (jn t u) := (by
  funext b
  unfold jn
  cases u b with
  | none => rfl
  | some c => rfl)
end
end DL

namespace DL
open PySem PySem.Spec PySem.W PyProof.Rows L2
/-! ### sorted of a list of tuples of whole numbers, all of one length -/
def lexL : List Int → List Int → Bool
  | [], [] => false
  | [], _ :: _ => true
  | _ :: _, [] => false
  | x :: xs, y :: ys => if x = y then lexL xs ys else decide (x < y)
theorem lexL_cons {x y : Int} {xs ys : List Int} : lexL (x :: xs) (y :: ys) = if x = y then lexL xs ys else decide (x < y) := rfl
theorem lexL_asym : ∀ x y : List Int, lexL x y = true → lexL y x = false
  | [], [], h => by cases h
  | [], _ :: _, _ => rfl
  | _ :: _, [], h => by cases h
  | x :: xs, y :: ys, h => by
    rw [lexL_cons] at h ⊢
    by_cases e : x = y
    · rw [if_pos e] at h
      rw [if_pos e.symm]
      exact lexL_asym xs ys h
    · rw [if_neg e] at h
      rw [if_neg (Ne.symm e)]
      have := of_decide_eq_true h
      exact decide_eq_false (by omega)
theorem lexL_tr : ∀ x y z : List Int, lexL y x = false → lexL z y = false → lexL z x = false
  | [], _, [], _, _ => rfl
  | [], _, _ :: _, _, _ => rfl
  | _ :: _, [], _, h, _ => by cases h
  | _ :: _, _ :: _, [], _, h => by cases h
  | x :: xs, y :: ys, z :: zs, h1, h2 => by
    rw [lexL_cons] at h1 h2 ⊢
    by_cases e1 : y = x
    · rw [if_pos e1] at h1
      subst e1
      by_cases e2 : z = y
      · rw [if_pos e2] at h2 ⊢
        exact lexL_tr xs ys zs h1 h2
      · rw [if_neg e2] at h2 ⊢
        exact h2
    · rw [if_neg e1] at h1
      have k1 := of_decide_eq_false h1
      by_cases e2 : z = y
      · subst e2
        rw [if_neg e1]; exact h1
      · rw [if_neg e2] at h2
        have k2 := of_decide_eq_false h2
        rw [if_neg (by omega)]
        exact decide_eq_false (by omega)
theorem lexL_tot : ∀ x y : List Int, lexL x y = false → lexL y x = false → x = y
  | [], [], _, _ => rfl
  | [], _ :: _, h, _ => by cases h
  | _ :: _, [], _, h => by cases h
  | x :: xs, y :: ys, h1, h2 => by
    rw [lexL_cons] at h1 h2
    by_cases e : x = y
    · subst e
      rw [if_pos rfl] at h1 h2
      rw [lexL_tot xs ys h1 h2]
    · rw [if_neg e] at h1
      rw [if_neg (Ne.symm e)] at h2
      have := of_decide_eq_false h1
      have := of_decide_eq_false h2
      omega
theorem lexL_swo {α : Type} (k : α → List Int) : SrtO.Swo fun v u => lexL (k v) (k u) := ⟨fun x y => lexL_asym _ _, fun x y z => lexL_tr _ _ _⟩
section
variable {prog : Program} {w : World} {A : Around} {E : Value → Shared → Prop} {s : Shared}
theorem lex_go {b : Bool} {ns : List Int} : ∀ {ms : List Int} {xs ys : List Value} {Q : Bool → Shared → Prop} (i : Nat), IntsAre xs ns → IntsAre ys ms → ns.length = ms.length → Q (lexL ns ms) s →
    PySem.W.KatLex prog w A b false Q (xs.zip ys) i s := by
  induction ns with
  | nil =>
    intro ms xs ys Q i hx hy hl hq
    cases ms with
    | cons _ _ => simp at hl
    | nil => cases hx; cases hy; exact PySem.W.kat_nil hq
  | cons n ns ih =>
    intro ms xs ys Q i hx hy hl hq
    cases ms with
    | nil => simp at hl
    | cons q ms =>
      cases hx with
      | cons _ t hx =>
        cases hy with
        | cons _ u hy =>
          rw [lexL_cons] at hq
          rw [List.zip_cons_cons]
          refine PySem.W.kat_cons (wpAny_eqBool_int ?_)
          by_cases e : n = q
          · rw [if_pos e] at hq
            rw [show (n == q) = true from beq_iff_eq.mpr e]
            exact PySem.W.kat_yes (ih (i + 1) hx hy (by simpa using hl) hq)
          · rw [if_neg e] at hq
            rw [show (n == q) = false from beq_eq_false_iff_ne.mpr e]
            refine PySem.W.kat_no ?_
            cases (b && i == 0) with
            | true => exact oneLt_int hq
            | false => exact PySem.W.kat_one _ _ (PyProof.Rows.lt_int (Q := PySem.W.BoolBack Q) hq)
def TisAre (h : Heap) (d : Nat) (k : Value → List Int) (vs : List Value) : Prop := ∀ v ∈ vs, TS.TupInts h v (k v) ∧ (k v).length = d
theorem tis_heads {h : Heap} {d : Nat} {k : Value → List Int} (hd : 1 ≤ d) : ∀ {vs : List Value}, TisAre h d k vs → ∃ fs : List Value, PySem.W.KatTups h vs fs ∧ fs.length = vs.length ∧ ∀ f ∈ fs, ∃ n t, f = Value.int n t
  | [], _ => ⟨[], PySem.W.KatTups.nil, rfl, fun f hf => nomatch hf⟩
  | v :: vs, hv => by
    obtain ⟨fs, k1, k2, k3⟩ := tis_heads hd (vs := vs) fun u hu => hv u (List.mem_cons_of_mem _ hu)
    obtain ⟨⟨a, xs, e0, ⟨o, ho, hc, n, hdt⟩, hi⟩, hl⟩ := hv v List.mem_cons_self
    cases e1 : xs.toList with
    | nil =>
      have := hi.length
      rw [e1, hl] at this
      simp at this
      omega
    | cons y ys =>
      have hi2 := hi
      rw [e1] at hi2
      obtain ⟨p, t, ey⟩ : ∃ p t, y = Value.int p t := hi2.all y List.mem_cons_self
      subst e0
      refine ⟨y :: fs, PySem.W.KatTups.cons ho hc hdt (by have := congrArg (fun l : List Value => l[0]?) e1; simpa using this) k1, by rw [List.length_cons, List.length_cons, k2], fun f hf => ?_⟩
      rcases List.mem_cons.mp hf with rfl | hf
      · exact ⟨p, t, ey⟩
      · exact k3 f hf
theorem tis_cmp {d : Nat} {k : Value → List Int} {vs : List Value} (hv : TisAre s.heap d k vs) : SrtO.Cmp prog w A s (tuples' true) (fun p => p.1 ∈ vs) (SrtO.lt2 fun v u => lexL (k v) (k u)) := (by
  intro p q hm hm'
  obtain ⟨⟨a, xs, e, ⟨o, ho, hc, n, hdt⟩, hi⟩, hl⟩ := hv _ hm
  obtain ⟨⟨a', ys, e', ⟨o', ho', hc', n', hdt'⟩, hi'⟩, hl'⟩ := hv _ hm'
  show wpAny (model prog w) A (keyLt' (tuples' true) p.1 q.1) (fun r s' => s' = s ∧ r = lexL (k p.1) (k q.1)) (fun _ _ => False) s
  generalize k p.1 = ns at hi hl ⊢
  generalize k q.1 = ms at hi' hl' ⊢
  rw [e, e']
  refine PySem.W.kat_lt ho hdt ho' hdt' ?_
  have s1 := hi.length
  have s2 := hi'.length
  rw [show decide (xs.size < ys.size) = false from decide_eq_false (by
    rw [← Array.length_toList, ← Array.length_toList, s1, s2, hl, hl']; exact Nat.lt_irrefl _)]
  exact lex_go 0 hi hi' (hl.trans hl'.symm) ⟨rfl, rfl⟩)
theorem tis_sortable {d : Nat} {k : Value → List Int} {a : Addr} {vs : List Value} (hd : 1 ≤ d) (h0 : 0 < vs.length) (hv : TisAre s.heap d k vs) (ha : ∀ o, s.heap.get? a = some o → o.cls ≠ .type "tuple") : SrtO.SortableO prog w A s a vs fun v u => lexL (k v) (k u) := fun h' keep => by
  have hv' : TisAre h' d k vs := fun v hm => ⟨(hv v hm).1.keeps fun b o e c => keep b o (fun z => by subst z; exact ha o e c) e, (hv v hm).2⟩
  obtain ⟨fs, k1, k2, k3⟩ := tis_heads hd hv'
  refine ⟨tuples' true, fun Q E hq => PySem.W.kat_kind (T := .type "int") k1 (by omega) (fun f hm => ?_) (by rfl) ?_, tis_cmp hv'⟩
  · obtain ⟨x, t, rfl⟩ := k3 f hm
    exact PySem.W.Looks.now
  · rw [show (Value.type "int" != Value.type "tuple") = true by first | rfl | decide +kernel]
    exact hq
end
abbrev ltL (k : V → List Int) (x y : V) : Bool := lexL (k x) (k y)
def rSortedTI (K : PySem.W.Frag) : List V → Hp → VK → Prop := fun vs H Q => ∃ (a : Addr) (xs : List V) (k : V → List Int) (d : Nat), vs = [V.ref a] ∧ SqL K H a xs ∧ 1 ≤ d ∧ (∀ x ∈ xs, (k x).length = d ∧ ∃ t, x = V.ref t ∧ H t = some (.tup ((k x).map V.int))) ∧
  ∀ ys p, SrtO.Srtd (ltL k) ys → SrtO.Stb (ltL k) ys xs → H p = none → Q (.ref p) (upd H p (.lst ys))
theorem cr_sortedTI {X : Cx} : CallR X (.builtin "sorted") (rSortedTI X.K) := fun pins s σ H vs us Q I r h => by
  obtain ⟨a, xs, k, d, rfl, hs, hd, hx, q⟩ := h
  obtain ⟨its, rv, hl, hz⟩ := I.list hs
  obtain ⟨u, rfl, ru⟩ := vals1 r
  obtain rfl : u = Value.ref a := ru
  have hsz : its.length ≤ sizeLine := by rw [← rv.length]; exact hz
  obtain ⟨e1, e2⟩ := refs_back rv fun x m => (hx x m).2.imp fun t e => e.1
  have hT : TisAre s.heap d (fun u => k (backV u)) its := fun v hv => by
    obtain ⟨t, rfl⟩ := e2 v hv
    obtain ⟨hl2, t', e, ht⟩ := hx (V.ref t) (by rw [e1]; exact List.mem_map.mpr ⟨_, hv, rfl⟩)
    cases e
    obtain ⟨_, i2, r2, o, ho, hc, n, hdt⟩ := I.hok _ _ ht
    exact ⟨⟨t, i2.toArray, rfl, ⟨o, ho, hc, n, hdt⟩, by show IntsAre i2 (k (V.ref t)); exact Vals.ints r2⟩, hl2⟩
  refine SrtO.sorted_ord (lexL_swo fun u => k (backV u)) hl.isList hsz (fun h2 h₁ b hb kk => ?_) fun out hs2 hb => ?_
  · refine tis_sortable (s := { s with heap := h₁ }) hd (by omega) (fun v hm => ⟨(hT v hm).1.keeps fun c o e _ => (kk c o e).2, (hT v hm).2⟩) fun o e => ?_
    have e' : some o = some (seqObj "list" its.toArray 0) := e.symm.trans hb
    cases e'
    exact fun c => absurd (Value.type.inj c) (by decide)
  · have h3 : ∀ u ∈ out, ∃ a, u = Value.ref a := fun u hu => e2 u (hb.perm.mem_iff.mp hu)
    have hb2 : SrtO.Stb (ltL k) (out.map backV) xs := by
      rw [e1]
      exact SrtO.Stb.map (lexL_swo k) backV hb
    have kp : ∀ b o, s.heap.get? b = some o → (sortedAll s.heap its out.toArray).get? b = some o := fun b o e => sortedAll_old e
    have hat := sortedAll_at s.heap its out.toArray
    have hn : ∃ n, (sortedAll s.heap its out.toArray).get? (s.heap.objs.size + 1) = some (seqObj "list" out.toArray n) := hat
    obtain ⟨n, hn⟩ := hn
    refine ⟨.ref (s.heap.objs.size + 1), upd H _ (.lst (out.map backV)), I.laid (t' := s.toks) kp (Nat.le_succ _) ⟨?_, out, n, vals_back h3, hn⟩, rfl, q _ _ (SrtO.srtd_map hs2) hb2 (I.hok.fresh (Nat.le_succ _))⟩
    rw [hb2.len]
    exact hz
theorem cr_sortedTIK {K : PySem.W.Frag} {X : Cx} (h : X.K = K) : CallR X (.builtin "sorted") (rSortedTI K) := h ▸ cr_sortedTI
section
variable {K : PySem.W.Frag} {m : Mem} {Q : S → Mem → Prop}
abbrev dTi (ns : List Int) : PyData := .tuple (ns.map PyData.int)
def vInt : V → Int
  | .int i => i
  | _ => 0
def rdOs : Option HO → List Int
  | some (HO.tup vs) => vs.map vInt
  | _ => []
def rdTs (F : Hp) : V → List Int
  | .ref t => rdOs (F t)
  | _ => []
theorem vInt_map : ∀ ns : List Int, (ns.map V.int).map vInt = ns
  | [] => rfl
  | n :: ns => by rw [List.map_cons, List.map_cons, vInt_map]; rfl
theorem rd_tis {F : Hp} : ∀ {ps : List (List Int)} {vs : List V}, DqAll K F vs (ps.map dTi) → vs.map (rdTs F) = ps ∧ ∀ x ∈ vs, ∃ t, x = V.ref t ∧ F t = some (.tup ((rdTs F x).map V.int))
  | [], _, h => by
    have h : DqAll K F _ [] := h
    cases h
    exact ⟨rfl, fun x hx => nomatch hx⟩
  | p :: ps, _, h => by
    have h : DqAll K F _ (dTi p :: ps.map dTi) := h
    cases h with
    | cons h1 h2 =>
      obtain ⟨e2, e3⟩ := rd_tis h2
      obtain ⟨a, xs, rfl, ha, hx⟩ := dp_tupH h1
      have e0 := ints_of hx
      subst e0
      have e : rdTs F (.ref a) = p := by
        show rdOs (F a) = p
        rw [ha]
        exact vInt_map p
      refine ⟨by rw [List.map_cons, e, e2], fun q hq => ?_⟩
      rcases List.mem_cons.mp hq with rfl | hq
      · exact ⟨a, rfl, by rw [e]; exact ha⟩
      · exact e3 q hq
theorem tis_rd {F : Hp} : ∀ {vs : List V}, (∀ x ∈ vs, ∃ t, x = V.ref t ∧ F t = some (.tup ((rdTs F x).map V.int))) → DqAll K F vs ((vs.map (rdTs F)).map dTi)
  | [], _ => .nil
  | x :: vs, h => by
    obtain ⟨t, e, h2⟩ := h x List.mem_cons_self
    refine .cons ?_ (tis_rd fun y hy => h y (List.mem_cons_of_mem _ hy))
    rw [e] at h2 ⊢
    exact Dq.tup h2 ints_dqa
abbrev LexL (zs : List (List Int)) : Prop := zs.Pairwise fun p q => lexL q p = false
theorem sorted_tis {ps : List (List Int)} {d : Nat} (hd : 1 ≤ d) (hp : ∀ p ∈ ps, p.length = d) (q : ∀ zs : List (List Int), zs.Perm ps → LexL zs → Q (.d (.list (zs.map dTi))) m) : LB K (rSortedTI K) [.d (.list (ps.map dTi))] m Q := fun vs F R H Q' a c k => by
  cases a with
  | cons a b =>
    cases b
    obtain ⟨p, vs, rfl, h1, h2⟩ := dp_list a
    obtain ⟨e2, e3⟩ := rd_tis h2
    refine ⟨p, vs, rdTs F, d, rfl, (cn_sub c).seq h1, hd, fun x hx => ⟨hp _ (by rw [← e2]; exact List.mem_map.mpr ⟨x, hx, rfl⟩), ?_⟩, fun ys l h3 h4 hl => ?_⟩
    · obtain ⟨t, e, h⟩ := e3 x hx
      exact ⟨t, e, cn_sub c _ _ h⟩
    · refine new_D c hl (tis_rd fun x hx => e3 x (h4.perm.mem_iff.mp hx)) k (q _ ?_ ?_)
      · rw [← e2]; exact h4.perm.map _
      · exact List.pairwise_map.mpr h3
theorem lexL_one {a b : List (List Int)} (h : a.Perm b) (ha : LexL a) (hb : LexL b) : a = b := h.eq_of_pairwise (le := fun p q => lexL q p = false) (fun x y _ _ h1 h2 => lexL_tot x y h2 h1) ha hb
end
end DL

set_option maxHeartbeats 1000000
namespace DL
open PySem PySem.Spec PyProof.Rows L2
/-! ### exceptions: a def that raises; a try that keeps what it caught -/
section
variable {X : Cx} {pins : List (Addr × Obj)} {σ : L2.St} {H : Hp} {s : Shared}
theorem inv_exk {sI : Shared} {B : Heap} {a C : Addr} {d : Option Addr} {oe : Obj} {vs : Array Value} (J0 : Inv X pins σ H sI) (nb : ∀ b o, sI.heap.get? b = some o → b ∉ frs X.stack → B.get? b = some o) (bn : B.get? a = none) (hex : X.ex = []) (nfr : a ∉ frs X.stack)
    (J4 : Inv X pins σ H s) (he : s.heap.get? a = some oe) (hc : oe.cls = .ref C) (hd : oe.dict = d) (hv : oe.data = .fields vs) (na : H a = none) (nL : a ≠ X.env.locals) : Inv (X.suite a (X.pn ++ pins)) [] σ (upd H a (exK a C d)) s := by
  have sIn : sI.heap.get? a = none := by
    cases e : sI.heap.get? a with
    | none => rfl
    | some o => have := nb a o e nfr; rw [bn] at this; cases this
  have s0 : X.s_0.heap.get? a = none := by
    cases e : X.s_0.heap.get? a with
    | none => rfl
    | some o =>
      obtain ⟨o', e'⟩ := J0.base.there a o e (by rw [hex]; simp)
      rw [sIn] at e'; cases e'
  refine ⟨J4.ok.suite _ _, J4.os, J4.bare, ⟨J4.base.keep, J4.base.slot, fun b o e n hx => ?_, J4.base.there, fun b xs q => ?_, fun b o u q => ?_, fun b ps q => ?_⟩, J4.loc, J4.cell, ?_, fun x c e => ?_, fun p hp => ?_, fun b ob e => ?_, J4.len⟩
  · rw [upd_ne (fun z => by rw [z] at e; exact absurd (s0.symm.trans e) (by simp))]
    exact J4.base.free b o e n hx
  · have t := J4.base.tups b xs q
    rw [upd_ne (fun z => by rw [z] at t; exact absurd (na.symm.trans t) (by simp))]
    exact t
  · have t := J4.base.frzs b o u q
    rw [upd_ne (fun z => by rw [z] at t; exact absurd (na.symm.trans t) (by simp))]
    exact t
  · obtain ⟨more, t⟩ := J4.base.tbls b ps q
    refine ⟨more, ?_⟩
    rw [upd_ne (fun z => by rw [z] at t; exact absurd (na.symm.trans t) (by simp))]
    exact t
  · show upd H a (exK a C d) X.env.locals = none
    rw [upd_ne (Ne.symm nL)]
    exact J4.free
  · obtain ⟨v, oc, ho, hdc⟩ := J4.cell x c e
    show upd H a (exK a C d) c = none
    rw [upd_ne (fun z => by rw [z, he] at ho; cases ho; rw [hv] at hdc; cases hdc)]
    exact J4.freeC x c e
  · have hp' : p ∈ X.pn ++ pins := by
      have hp2 : p ∈ (X.pn ++ pins) ++ [] := hp
      rw [List.append_nil] at hp2; exact hp2
    obtain ⟨e1, n, ne, nf, dd⟩ := J4.pin p hp'
    have hne : p.1 ≠ a := fun z => by
      have q := (J0.pin p hp').1
      rw [z, sIn] at q; cases q
    refine ⟨e1, ?_, ne, nf, dd⟩
    show upd H a (exK a C d) p.1 = none
    rw [upd_ne hne]
    exact n
  · by_cases hb : b = a
    · subst hb
      rw [upd_same] at e; cases e
      exact ⟨⟨oe, vs, he, hc, hd, hv⟩, ⟨oe, he⟩, fun h1 h2 ⟨o', v', q1, q2⟩ k => ⟨o', v', k _ q1, q2⟩⟩
    · rw [upd_ne hb] at e
      exact (J4.hok b ob e).stay (fun c v _ q => q) (fun c q => by rw [upd_ne (fun z => by rw [z] at q; exact absurd (na.symm.trans q) (by simp))]; exact q) fun c xs q => by rw [upd_ne (fun z => by rw [z] at q; exact absurd (na.symm.trans q) (by simp))]; exact q
theorem inv_ofs {a : Addr} (I : Inv (X.suite a (X.pn ++ pins)) [] σ H s) (ok : X.Ok) : Inv X pins σ H s :=
  ⟨ok, I.os, I.bare, I.base, I.loc, I.cell, I.free, I.freeC, fun p hp => I.pin p (by show p ∈ (X.pn ++ pins) ++ []; rw [List.append_nil]; exact hp), I.hok, I.len⟩
end
/-- what the clause 'except x as n' wishes, the exception being kept -/
def wAsK (K : PySem.W.Frag) (c : Value) (i : Nat) (ts : TS) (Wout : WX) (D : Ends) : WX := fun cls d σ H =>
  ∃ b, PySem.W.exmOne K cls c = some b ∧ (b = true → ∃ C, cls = .ref C ∧ ∀ a, H a = none → ts { nx := fun σ' H' => D.nx (σ'.set i none) H', rt := D.rt, bk := fun σ' H' => D.bk (σ'.set i none) H', ct := fun σ' H' => D.ct (σ'.set i none) H' } (σ.set i (some (.ref a))) (upd H a (exK a C d))) ∧
    (b = false → Wout cls d σ H)
section
variable {X : Cx} {x n : Str} {c : Value} {i : Nat} {body suite : List Stmt} {b₀ : Stmt} {np pos pos' : Pos} {tb : WX → TS} {ts : TS} {Wout : WX}
theorem ps_try_asK (hs : X.stack = X.env :: X.outer) (hf : X.env.frame = some X.env.locals) (hex : X.ex = []) (hN : X.N.Nodup) (hi : X.N[i]? = some n) (hln : X.env.kindOf n = some .local) (hc : Names X x c) (tk : Takes X Wout)
    (hb : ∀ (W : WX) (pn : List (Addr × Obj)) (xe : Value → Shared → Prop), Takes (X.tr pn xe) W → PassesOwn (model X.prog X.w) X.A X.env xe → PSs (X.tr pn xe) body (tb W))
    (hsu : ∀ (a : Addr) (pn : List (Addr × Obj)), PSs (X.suite a pn) (b₀ :: suite) ts) :
    PS X (.Try body [.ExceptHandler (some (.Name x np)) (some n) (b₀ :: suite) pos'] [] [] pos) (fun D σ H => tb (wAsK X.K c i ts Wout D) D σ H) := by
  refine ⟨fun pins s σ H D I h => ?_⟩
  have ok := I.ok
  have hfr : X.A.frames = some (X.env :: X.outer) := by rw [ok.frames, hs]
  have hloc : Loc X.env.scope n := .inl hln
  refine wpAny_Try_except ?_
  refine wpAny_mono ((hb (wAsK X.K c i ts Wout D) (X.pn ++ pins) (fun e s₁ => wpAny (model X.prog X.w) X.A (noteFrame e X.env) (fun _ s₂ => wpAny (model X.prog X.w) X.A (setFlight e none) (fun _ s₃ =>
    wpAny (model X.prog X.w) X.A (handleBy e X.env [.ExceptHandler (some (.Name x np)) (some n) (b₀ :: suite) pos']) (SP X pins D) X.xe s₃) X.xe s₂) X.xe s₁) (fun u s' xx => ?_) PassesOwn.looking).run [] s σ H D (I.toTry _) h) (fun f s1 hsp => ?_) (fun e s1 he => he)
  · obtain ⟨a, B, sI, pins', σ', H', cls, d, rfl, J', nb, up, sky, na, os, ag, b, hb1, hyes, hno⟩ := xx
    have J : Inv X pins σ' H' sI := J'.ofTry ok
    have sky' : Sky B (X.env :: X.outer) a (Zc cls d) X.env.locals s'.heap := by rw [← hs]; exact sky
    show wpAny (model X.prog X.w) X.A (noteFrame (.ref a) X.env) _ _ _
    refine Sky.land Zc.steady hfr hf sky' fun h3 fl3 up3 => ?_
    have J3 : Inv X pins σ' H' { s' with heap := h3 } := J.landed nb fl3.1 (up.trans up3) os ag
    obtain ⟨oe3, vs3, he3, hz3, hd3⟩ := fl3.there
    have notFr : ∀ {h : Heap} {o : Obj} {vs : Array Value}, h.FunFrames B (X.env :: X.outer) → h.get? a = some o → o.data = .fields vs → a ∉ frs (X.env :: X.outer) := fun {h o vs} ff e dd hm => by
      obtain ⟨_, o', e', hnf⟩ := ff.mem hm
      rw [e] at e'; cases e'
      exact hnf _ dd
    have nfr := notFr fl3.2.2.1 he3 hd3
    have nL : a ≠ X.env.locals := fun z => nfr (List.mem_filterMap.mpr ⟨X.env, List.mem_cons_self, by rw [hf, z]⟩)
    have nF : a ∉ X.fs := fun hm => by
      obtain ⟨e, he, q⟩ := List.mem_filterMap.mp hm
      exact nfr (List.mem_filterMap.mpr ⟨e, List.mem_cons_of_mem _ he, q⟩)
    have S3 := J3.suite he3 hd3 na nL nF
    refine wpAny_handleBy_cons (codeAny_handlers_test ?_) (by intro q; cases q)
    have LT : PySem.W.Looks (model X.prog X.w) h3 (typeOf (.ref a)) cls := fun A Q E s k q => wpAny_typeOf_ref (k _ _ he3) (by rw [hz3.1]; exact q)
    have LM := PySem.W.exm_one (M := model X.prog X.w) (J3.kIn) LT hb1
    have test : ∀ {Q : Value → Shared → Prop} {E : Value → Shared → Prop}, Q c { s' with heap := h3 } → wpAny (model X.prog X.w) (X.A.mark (some (.ref a))) (eval (.Name x np) X.env) Q E { s' with heap := h3 } := fun {Q E} q => by
      obtain ⟨hg, hdbg, hm | ⟨hm, hv, hnn⟩⟩ := hc
      · exact ld_glob (X := X.suite a ((a, oe3) :: (X.pn ++ pins))) S3 hg hm q hdbg
      · exact ld_blt (X := X.suite a ((a, oe3) :: (X.pn ++ pins))) S3 hg hm hv q hnn hdbg
    refine test (LM.here ?_)
    cases b with
    | true =>
      refine codeAny_handlers_suite_as ?_
      refine HandSPX.lands_againZ fl3 fun h4 fl4 up4 => ?_
      have J4 : Inv X pins σ' H' { s' with heap := h4 } := J.landed nb fl4.1 ((up.trans up3).trans up4) os ag
      obtain ⟨oe4, vs4, he4, hz4, hd4⟩ := fl4.there
      obtain ⟨C, rfl, hts⟩ := hyes rfl
      have S4 := inv_exk (C := C) (d := d) J nb fl4.2.1 hex (by rw [hs]; exact nfr) J4 he4 hz4.1 hz4.2 hd4 na nL
      refine store_ok (X := X.suite a (X.pn ++ pins)) (v := .ref a) S4 hN hi hloc rfl (fun s5 S5 => ?_) (.inr hln)
      refine wpAny_mono ((hsu a (X.pn ++ pins)).run [] s5 _ _ _ S5 (hts a na)) (fun f s6 hsp => ?_) (fun _ _ z => False.elim z)
      have end_ : ∀ {σ6 : L2.St} {H6 : Hp} {Q : Shared → Prop}, Inv (X.suite a (X.pn ++ pins)) [] σ6 H6 s6 → (∀ s7, Inv X pins (σ6.set i none) H6 s7 → Q s7) →
          wpAny (model X.prog X.w) X.A (do bindName X.env n .none; unbindBehindTheSuite X.env n pos') (fun _ s7 => Q s7) X.xe s6 := fun {σ6 H6 Q} S6 hq => gone_ok (inv_ofs S6 ok) hN hi hln hq
      cases f with
      | next =>
        obtain ⟨σ6, H6, S6, q6⟩ := hsp
        exact end_ S6 fun s7 J7 => ⟨_, _, J7, q6⟩
      | brk =>
        obtain ⟨σ6, H6, S6, q6⟩ := hsp
        exact end_ S6 fun s7 J7 => ⟨_, _, J7, q6⟩
      | cont =>
        obtain ⟨σ6, H6, S6, q6⟩ := hsp
        exact end_ S6 fun s7 J7 => ⟨_, _, J7, q6⟩
      | ret u =>
        obtain ⟨v6, σ6, H6, S6, r6, q6⟩ := hsp
        exact end_ S6 fun s7 J7 => ⟨_, _, _, J7, r6, q6⟩
    | false =>
      show wpAny _ X.A (handleBy (.ref a) X.env []) _ _ _
      refine wpAny_handleBy_nil ?_
      obtain ⟨k1, k2, k3, oe, vs, T, oT, ts', he, hz, hd, h1, hr⟩ := id fl3
      unfold PySem.passOn
      refine wpAny_bind (wpAny_field he hd h1 ?_)
      rw [if_neg (show ¬ ((Value.ref T == Value.none) = true) from by simp)]
      have fin : wpAny (model X.prog X.w) X.A (setFlight (.ref a) X.env.frame) (fun _ s4 => wpAny (model X.prog X.w) X.A (throw (.ref a) : Sem Flow) (SP X pins D) X.xe s4) X.xe { s' with heap := h3 } := by
        rw [hf]
        refine HandSPX.setFlight_upZ fl3 fun h4 hh4 up4 => wpAny_throw (tk _ _ ?_)
        exact ⟨a, B, sI, pins, σ', H', cls, d, rfl, J, nb, (up.trans up3).trans up4, .inr (.inr (by rw [hs]; exact hh4)), na, os, ag, hno rfl⟩
      first
        | exact wpAny_bind (wpAny_pure (wpAny_bind fin))
        | exact wpAny_bind fin
  · cases f with
    | next =>
      obtain ⟨σ', H', J', q⟩ := hsp
      exact wpAny_execs_nil ⟨σ', H', J'.ofTry ok, q⟩
    | brk =>
      obtain ⟨σ', H', J', q⟩ := hsp
      exact ⟨σ', H', J'.ofTry ok, q⟩
    | cont =>
      obtain ⟨σ', H', J', q⟩ := hsp
      exact ⟨σ', H', J'.ofTry ok, q⟩
    | ret u =>
      obtain ⟨v, σ', H', J', r, q⟩ := hsp
      exact ⟨v, σ', H', J'.ofTry ok, r, q⟩
end
def tTryK (K : PySem.W.Frag) (c : Value) (i : Nat) (ts : TS) (tb : WX → TS) : TS := fun D σ H => tb (wAsK K c i ts (fun _ _ _ _ => False) D) D σ H
theorem ps_tryK {X : Cx} {K : PySem.W.Frag} {x n : Str} {c : Value} {i : Nat} {body suite : List Stmt} {b₀ : Stmt} {np pos pos' : Pos} {tb : WX → TS} {ts : TS} (h : X.K = K) (hs : X.stack = X.env :: X.outer) (hf : X.env.frame = some X.env.locals) (hex : X.ex = []) (hN : X.N.Nodup) (hi : X.N[i]? = some n) (hln : X.env.kindOf n = some .local) (hc : Names X x c)
    (hb : ∀ (W : WX) (pn : List (Addr × Obj)) (xe : Value → Shared → Prop), Takes (X.tr pn xe) W → PassesOwn (model X.prog X.w) X.A X.env xe → PSs (X.tr pn xe) body (tb W))
    (hsu : ∀ (a : Addr) (pn : List (Addr × Obj)), PSs (X.suite a pn) (b₀ :: suite) ts) :
    PS X (.Try body [.ExceptHandler (some (.Name x np)) (some n) (b₀ :: suite) pos'] [] [] pos) (tTryK K c i ts tb) := by
  subst h
  exact ps_try_asK (Wout := fun _ _ _ _ => False) hs hf hex hN hi hln hc takes0 hb hsu
/-! ### isinstance, fields of a kept exception -/
theorem inst_exk {P : Program} {w : World} {H : Hp} {h : Heap} {a C : Addr} {d : Option Addr} (ok : HOk P w H h) (ha : H a = some (exK a C d)) (hd : ∀ dd, d = some dd → ∃ vs, H dd = some (.xd vs)) : ∃ ox od, PySem.W.InstAt h a ox C od ∧ (∀ dd vs, d = some dd → H dd = some (.xd vs) → ∃ mA o, h.Ns1 dd mA ∧ (∀ f, RelO (vs.lookup f) (mA f)) ∧ od = some o ∧ ∀ f, PySem.W.lookIn f o = some (mA f)) := (by
  have x : ObjOk P w H h a (.ext fun h => ∃ (oe : Obj) (vs : Array Value), h.get? a = some oe ∧ oe.cls = .ref C ∧ oe.dict = d ∧ oe.data = .fields vs) := ok a _ ha
  obtain ⟨oe, vs, h1, h2, h3, h4⟩ := x.1
  have hn : PySem.W.notCls oe = true := by unfold PySem.W.notCls; rw [h4] <;> rfl
  cases d with
  | none => exact ⟨oe, none, ⟨h1, h2, hn, by rw [h3]; trivial⟩, fun dd vs e => (nomatch e)⟩
  | some dd =>
    obtain ⟨us, hx⟩ := hd dd rfl
    have hx' : ObjOk P w H h dd (.xd us) := ok dd _ hx
    obtain ⟨mA, hns, hr⟩ := hx'
    obtain ⟨od, ho, hl⟩ := lookIn_ns hns
    refine ⟨oe, some od, ⟨h1, h2, hn, by rw [h3]; exact ho⟩, fun dd' vs' e e2 => ?_⟩
    cases e
    rw [hx] at e2; cases e2
    exact ⟨mA, od, hns, hr, rfl, fun f => by rw [hl]⟩)
def rIsX (K : PySem.W.Frag) : List V → Hp → VK → Prop := fun xs H Q => ∃ (a C : Addr) (d : Option Addr) (c : V) (u : Value) (b : Bool), xs = [.ref a, c] ∧ H a = some (exK a C d) ∧ (∀ dd, d = some dd → ∃ vs, H dd = some (.xd vs)) ∧ ExcC K C ∧ ClsV c u ∧ PySem.W.kitOne K (.ref C) u = some b ∧ Q (.bl b) H
def rIsXT (K : PySem.W.Frag) : List V → Hp → VK → Prop := fun xs H Q => ∃ (a C : Addr) (d : Option Addr) (tp : Addr) (cs : List V) (us : List Value) (b : Bool), xs = [.ref a, .ref tp] ∧ H tp = some (.tup cs) ∧ Paired ClsV cs us ∧ H a = some (exK a C d) ∧ (∀ dd, d = some dd → ∃ vs, H dd = some (.xd vs)) ∧ ExcC K C ∧ PySem.W.kitAny K (.ref C) us = some b ∧ Q (.bl b) H
theorem kitX_of {K : PySem.W.Frag} {C : Addr} (T : ExcC K C) {x : Addr} {ox : Obj} {od : Option Obj} : PySem.W.KitX K (.ref x) (.ref C) (fun h => PySem.W.InstAt h x ox C od) :=
  PySem.W.kitx_exc (by obtain ⟨cd, hc, _⟩ := PySem.W.any_some T.hd; rw [hc]; rfl) T.hg T.hk T.hs T.ha T.hn T.ht T.hm
theorem call_isX {X : Cx} : CallR X (.builtin "isinstance") (rIsX X.K) := (by
  intro pins s σ H xs us Q I r h
  obtain ⟨a, C, d, c, u, b, rfl, ha, hd, T, k, e, q⟩ := h
  obtain ⟨u1, u2, rfl, r1, r2⟩ := vals2 r
  cases (show u1 = Value.ref a from r1)
  have e2 := k.eq r2
  subst e2
  obtain ⟨ox, od, J, _⟩ := inst_exk I.hok ha hd
  exact PySem.W.kia_one (kitX_of T) I.kIn J e (fun z => nomatch z) fun tk => ⟨.bl b, H, I.tok tk, rfl, q⟩)
theorem call_isXT {X : Cx} : CallR X (.builtin "isinstance") (rIsXT X.K) := (by
  intro pins s σ H xs us Q I r h
  obtain ⟨a, C, d, tp, cs, ws, b, rfl, hT, k, ha, hd, T, e, q⟩ := h
  obtain ⟨u1, u2, rfl, r1, r2⟩ := vals2 r
  cases (show u1 = Value.ref a from r1)
  cases (show u2 = Value.ref tp from r2)
  obtain ⟨_, its, rv, o, h1, h2, n, h3⟩ := (show ObjOk X.prog X.w H s.heap tp (.tup cs) from I.hok tp _ hT)
  have e3 := ClsV.all k rv
  subst e3
  obtain ⟨oc, od, dt, sl⟩ := o
  simp only at h2 h3
  subst h2 h3
  obtain ⟨ox, od, J, _⟩ := inst_exk I.hok ha hd
  exact PySem.W.kia_tup (kitX_of T) I.kIn J h1 e (fun z => nomatch z) fun tk => ⟨.bl b, H, I.tok tk, rfl, q⟩)
theorem call_isXK {X : Cx} {K : PySem.W.Frag} (h : X.K = K) : CallR X (.builtin "isinstance") (rIsX K) := h ▸ call_isX
theorem call_isXTK {X : Cx} {K : PySem.W.Frag} (h : X.K = K) : CallR X (.builtin "isinstance") (rIsXT K) := h ▸ call_isXT
def tXfK (K : PySem.W.Frag) (f : Str) (te : TE) : TE := fun σ H Q => te σ H fun x H1 => ∃ (a C dd : Addr) (vs : List (Str × V)) (v : V), x = .ref a ∧ H1 a = some (exK a C (some dd)) ∧ H1 dd = some (.xd vs) ∧ ExcC K C ∧ PySem.W.findIn K (.ref C) f = some none ∧ vs.lookup f = some v ∧ Q v H1
theorem pe_xfK {X : Cx} {K : PySem.W.Frag} {e : Expr} {te : TE} {pos : Pos} {n : Str} (h : X.K = K) (he : PE X e te) (hb : attributeBase e n X.env (eval e X.env) = eval e X.env := by rfl) : PE X (.Attribute e n pos) (tXfK K n te) := (by
  subst h
  refine ⟨fun pins s σ H Q I h => ?_⟩
  refine attr_of hb (thn (he.run pins s σ H _ I h) fun u s1 hh => ?_)
  obtain ⟨x, H1, I1, rx, a, C, dd, vs, v, rfl, ha, hd, T, hno, l, q⟩ := hh
  obtain rfl : u = Value.ref a := rx
  obtain ⟨ox, od, J, hl⟩ := inst_exk I1.hok ha (fun d e => by cases e; exact ⟨vs, hd⟩)
  obtain ⟨mA, o, hns, hr, rfl, hlk⟩ := hl dd vs rfl hd
  obtain ⟨u, hu, ru⟩ := RelO.some_of (v := v) (o := mA n) (by rw [← l]; exact hr n)
  exact HandSPX.exc_get I1.kIn J T.hg T.hk T.hs (PySem.W.findObj_own T.hd hno rfl (by rw [hlk, hu])) (handed_of ru) ⟨v, H1, I1.tok _, ru, q⟩)
section
variable {K : PySem.W.Frag} {Γ : Sl} {m : Mem} {Q : S → Mem → Prop} {te : TE}
theorem xf_at {F H : Hp} {d : Option Addr} {fs : List (Str × PyData)} (e : Same F H) (h : XF K F d fs) : ∀ dd, d = some dd → ∃ vs, H dd = some (.xd vs) := fun dd hd => by
  rcases h with ⟨h, _⟩ | ⟨d', vs, h1, h2, _⟩
  · rw [h] at hd; cases hd
  · rw [h1] at hd; cases hd; exact ⟨vs, e _ _ h2⟩
/-- a class as a value -/
theorem ar_cty {n : String} (q : Q (.t n) m) : AR K (tC (.ty n)) Γ m Q := fun σ F R H Q' g c k => k _ (.t n) F m H (Same.refl F) c rfl q
theorem isx_r {C D : Addr} {fs : List (Str × PyData)} {b : Bool} (T : ExcC K C) (e : PySem.W.kitOne K (.ref C) (.ref D) = some b) (q : Q (.d (.bool b)) m) : LB K (rIsX K) [.x C fs, .r D] m Q := fun vs F R H Q' r c k => by
  obtain ⟨v1, v2, rfl, ⟨a, d, rfl, h1, h2⟩, h3⟩ : ∃ v1 v2, vs = [v1, v2] ∧ RS K F v1 (.x C fs) ∧ RS K F v2 (.r D) := by
    cases r with | cons r1 r => cases r with | cons r2 r => cases r; exact ⟨_, _, rfl, r1, r2⟩
  obtain rfl : v2 = .ref D := h3
  exact ⟨a, C, d, _, _, b, rfl, cn_sub c _ _ h1, xf_at (cn_sub c) h2, T, .own D, e, k _ (.d (.bool b)) F m H (Same.refl F) c (Dq.bl b) q⟩
theorem isx_t {C : Addr} {n : String} {fs : List (Str × PyData)} {b : Bool} (T : ExcC K C) (e : PySem.W.kitOne K (.ref C) (.type n) = some b) (q : Q (.d (.bool b)) m) : LB K (rIsX K) [.x C fs, .t n] m Q := fun vs F R H Q' r c k => by
  obtain ⟨v1, v2, rfl, ⟨a, d, rfl, h1, h2⟩, h3⟩ : ∃ v1 v2, vs = [v1, v2] ∧ RS K F v1 (.x C fs) ∧ RS K F v2 (.t n) := by
    cases r with | cons r1 r => cases r with | cons r2 r => cases r; exact ⟨_, _, rfl, r1, r2⟩
  obtain rfl : v2 = .ty n := h3
  exact ⟨a, C, d, _, _, b, rfl, cn_sub c _ _ h1, xf_at (cn_sub c) h2, T, .ty n, e, k _ (.d (.bool b)) F m H (Same.refl F) c (Dq.bl b) q⟩
theorem isx_T {C p : Addr} {Ds : List Addr} {fs : List (Str × PyData)} {b : Bool} (T : ExcC K C) (hp : m p = some (.tup (Ds.map S.r))) (e : PySem.W.kitAny K (.ref C) (Ds.map Value.ref) = some b) (q : Q (.d (.bool b)) m) : LB K (rIsXT K) [.x C fs, .r p] m Q := fun vs F R H Q' r c k => by
  obtain ⟨v1, v2, rfl, ⟨a, d, rfl, h1, h2⟩, h3⟩ : ∃ v1 v2, vs = [v1, v2] ∧ RS K F v1 (.x C fs) ∧ RS K F v2 (.r p) := by
    cases r with | cons r1 r => cases r with | cons r2 r => cases r; exact ⟨_, _, rfl, r1, r2⟩
  obtain rfl : v2 = .ref p := h3
  obtain ⟨cs, hc, rs⟩ := own_tup c hp
  refine ⟨a, C, d, p, cs, Ds.map Value.ref, b, rfl, hc, ?_, cn_sub c _ _ h1, xf_at (cn_sub c) h2, T, e, k _ (.d (.bool b)) F m H (Same.refl F) c (Dq.bl b) q⟩
  clear hp e hc
  induction Ds generalizing cs with
  | nil => cases rs; exact .nil
  | cons D Ds ih =>
    cases rs with
    | cons r rs => exact .cons (by cases (show _ = V.ref D from r); exact .own D) (ih _ rs)
theorem ar_xf {f : Str} (h : AR K te Γ m fun x m1 => ∃ C fl y, x = .x C fl ∧ ExcC K C ∧ PySem.W.findIn K (.ref C) f = some none ∧ fl.lookup f = some y ∧ Q (.d y) m1) : AR K (tXfK K f te) Γ m Q := fun σ F R H Q' g c k =>
  h σ F R H _ g c fun v x F1 m1 H1 e1 c1 r1 q1 => by
    obtain ⟨C, fl, y, rfl, T, hno, hl, q⟩ := q1
    obtain ⟨a, d, rfl, h1, h2⟩ := r1
    rcases h2 with ⟨_, rfl⟩ | ⟨dd, vs, rfl, h3, h4⟩
    · cases hl
    · have : ∃ v, vs.lookup f = some v ∧ Dq K F1 v y := by
        clear h3 h1 c1 k h
        induction h4 with
        | nil => cases hl
        | @cons p q' vs' fl' hp ht ih =>
          obtain ⟨g1, u⟩ := p
          obtain ⟨g2, z⟩ := q'
          obtain ⟨hg, hq⟩ := hp
          cases (show g1 = g2 from hg)
          rw [List.lookup] at hl ⊢
          cases hb : f == g1 with
          | true => rw [hb] at hl; cases hl; exact ⟨u, rfl, hq⟩
          | false => rw [hb] at hl; exact ih hl
      obtain ⟨u, hu, ru⟩ := this
      exact ⟨a, C, dd, vs, u, rfl, cn_sub c1 _ _ h1, cn_sub c1 _ _ h3, T, hno, hu, k u (.d y) F1 m1 H1 e1 c1 ru q⟩
theorem is_x {C : Addr} {fs : List (Str × PyData)} (q : Q (.d (.bool false)) m) : LO K rIS (.x C fs) (.d .none) m Q := lo_l fun v u F R H Q' a b c k => by
  obtain ⟨p, d, rfl, _, _⟩ := a
  cases b
  exact ⟨rfl, k _ (.d (.bool false)) F m H (Same.refl F) c (Dq.bl _) q⟩
end

/-! ### walks that may raise -/
structure UpP (P : Hp → Hp → Prop) : Prop where
  up : ∀ {F F' R : Hp}, P F R → Same F F' → P F' R
abbrev EXS := Addr → List (Str × PyData) → Mem → Prop
abbrev FSX := List S → Mem → (S → Mem → Prop) → EXS → Prop
def LFX (n : Nat) (fs : FSX) : FSX := fun xs m Z Y => xs.length = n ∧ fs xs m Z Y
def toSpX (K : PySem.W.Frag) (fs : FSX) : Sp := fun vs H Q E => ∃ (F R : Hp) (m : Mem) (xs : List S) (Z : S → Mem → Prop) (Y : EXS), Cn K m F R H ∧ RSs K F vs xs ∧ fs xs m Z Y ∧
  (∀ v x F' m' H', Same F F' → Cn K m' F' R H' → RS K F' v x → Z x m' → Q v H') ∧
  (∀ C d fl F' m' H', Same F F' → Cn K m' F' R H' → XF K F' d fl → Y C fl m' → E (.ref C) d H')
/-- what is raised is taken by W -/
structure WOK (P : Hp → Hp → Prop) (K : PySem.W.Frag) (W : WX) (Y : Addr → List (Str × PyData) → Sl → Mem → Prop) : Prop where
  ok : ∀ {F R H' : Hp} {m' : Mem} {σ : L2.St} {Γ : Sl} {C : Addr} {d : Option Addr} {fl : List (Str × PyData)}, P F R → RG K F σ Γ → Cn K m' F R H' → XF K F d fl → Y C fl Γ m' → W (.ref C) d σ H'
def ARSp (P : Hp → Hp → Prop) (K : PySem.W.Frag) (t : TS) (Γ : Sl) (m : Mem) (D : AD) : Prop :=
  ∀ (σ : L2.St) (F R H : Hp) (D' : Ends), P F R → RG K F σ Γ → Cn K m F R H → AEnds K D F R D' → t D' σ H
def ARp (P : Hp → Hp → Prop) (K : PySem.W.Frag) (t : TE) (Γ : Sl) (m : Mem) (Q : S → Mem → Prop) : Prop :=
  ∀ (σ : L2.St) (F R H : Hp) (Q' : VK), P F R → RG K F σ Γ → Cn K m F R H → (∀ v x F' m' H', Same F F' → Cn K m' F' R H' → RS K F' v x → Q x m' → Q' v H') → t σ H Q'
section
variable {K : PySem.W.Frag} {Γ : Sl} {m : Mem} {P : Hp → Hp → Prop} {D : AD} {t u : TS} {te : TE} {Q : S → Mem → Prop} {W : WX} {Y : Addr → List (Str × PyData) → Sl → Mem → Prop}
theorem arsp_of (h : ARS K t Γ m D) : ARSp P K t Γ m D := fun σ F R H D' _ g c k => h σ F R H D' g c k
theorem arp_of (h : AR K te Γ m Q) : ARp P K te Γ m Q := fun σ F R H Q' _ g c k => h σ F R H Q' g c k
theorem arsp_seq (o : UpP P) (h : ARSp P K t Γ m { D with nx := fun Γ' m' => ARSp P K u Γ' m' D }) : ARSp P K (tSeq t u) Γ m D := fun σ F R H D' p g c k =>
  h σ F R H { D' with nx := u D' } p g c (aends_nx k fun σ' Γ' F' m' H' e g' c' q => q σ' F' R H' D' (o.up p e) g' c' (k.mono e))
theorem arsp_seqI (o : UpP P) (h : ARSp P K t Γ m { D with nx := fun Γ' m' => ARSp P K u Γ' m' D }) : ARSp P K (tSeqI t u) Γ m D := arsp_seq o h
/-- the first statement raises nothing -/
theorem arsp_s (o : UpP P) (h : ARS K t Γ m { D with nx := fun Γ' m' => ARSp P K u Γ' m' D }) : ARSp P K (tSeq t u) Γ m D := arsp_seq o (arsp_of h)
theorem arsp_cut (o : UpP P) (Mid : Sl → Mem → Prop) (h : ARSp P K t Γ m { D with nx := Mid }) (h2 : ∀ Γ' m', Mid Γ' m' → ARSp P K u Γ' m' D) : ARSp P K (tSeq t u) Γ m D :=
  arsp_seq o fun σ F R H D' p g c k => h σ F R H D' p g c ⟨fun σ Γ F' m' H' e g c q => k.nx σ Γ F' m' H' e g c (h2 _ _ q), k.rt, k.bk, k.ct⟩
theorem arsp_cutI (o : UpP P) (Mid : Sl → Mem → Prop) (h : ARSp P K t Γ m { D with nx := Mid }) (h2 : ∀ Γ' m', Mid Γ' m' → ARSp P K u Γ' m' D) : ARSp P K (tSeqI t u) Γ m D := arsp_cut o Mid h h2
theorem arsp_if (o : UpP P) {tc : TT} (h : ART K tc Γ m fun b m1 => if b = true then ARSp P K t Γ m1 D else ARSp P K u Γ m1 D) : ARSp P K (tIfS tc t u) Γ m D := fun σ F R H D' p g c k =>
  h σ F R H _ g c fun b F' m' H' e c' q => by
    cases b with
    | true => exact (show ARSp P K t Γ m' D from q) σ F' R H' D' (o.up p e) (rg_mono e g) c' (k.mono e)
    | false => exact (show ARSp P K u Γ m' D from q) σ F' R H' D' (o.up p e) (rg_mono e g) c' (k.mono e)
theorem arsp_drop (h : ARp P K te Γ m fun _ m1 => D.nx Γ m1) : ARSp P K (tDrop te) Γ m D := fun σ F R H D' p g c k =>
  h σ F R H _ p g c fun v x F' m' H' e c' r q => k.nx σ Γ F' m' H' e (rg_mono e g) c' q
theorem arsp_ret (h : ARp P K te Γ m D.rt) : ARSp P K (tRet te) Γ m D := fun σ F R H D' p g c k => h σ F R H _ p g c fun v x F' m' H' e c' r q => k.rt v x F' m' H' e c' r q
theorem arsp_asg {g : TG} (h : ARp P K te Γ m fun x m1 => ARG K g x Γ m1 D.nx) : ARSp P K (tAsg te g) Γ m D := fun σ F R H D' p gg c k =>
  h σ F R H _ p gg c fun v x F1 m1 H1 e1 c1 r1 q => q v σ F1 R H1 _ r1 (rg_mono e1 gg) c1 fun σ' Γ' F' m' H' e g' c' q' => k.nx σ' Γ' F' m' H' (e1.trans e) g' c' q'
theorem arsp_mono {D2 : AD} (h : ARSp P K t Γ m D) (h1 : ∀ Γ m, D.nx Γ m → D2.nx Γ m) (h2 : ∀ x m, D.rt x m → D2.rt x m) (h3 : ∀ Γ m, D.bk Γ m → D2.bk Γ m) (h4 : ∀ Γ m, D.ct Γ m → D2.ct Γ m) : ARSp P K t Γ m D2 := fun σ F R H D' p g c k =>
  h σ F R H D' p g c ⟨fun σ Γ F' m' H' e g c q => k.nx σ Γ F' m' H' e g c (h1 _ _ q), fun v x F' m' H' e c r q => k.rt v x F' m' H' e c r (h2 _ _ q), fun σ Γ F' m' H' e g c q => k.bk σ Γ F' m' H' e g c (h3 _ _ q), fun σ Γ F' m' H' e g c q => k.ct σ Γ F' m' H' e g c (h4 _ _ q)⟩
/-- ghost: owned objects are forgotten -/
theorem arsp_drp (o : UpP P) {m2 : Mem} (l : Le m2 m) (h : ARSp P K t Γ m2 D) : ARSp P K t Γ m D := fun σ F R H D' p g c k =>
  h σ _ R H D' (o.up p (frzF_same c)) (rg_mono (frzF_same c) g) (cn_frz c l) (k.mono (frzF_same c))
def FORPp (P : Hp → Hp → Prop) (K : PySem.W.Frag) (g : TG) (tb : TS) (Γ : Sl) (nx : Sl → Mem → Prop) (rt : S → Mem → Prop) (ds : List S) (G : Mem → Prop) (m1 : Mem) : Prop := ∃ I : Nat → Sl → Mem → Prop, I 0 Γ m1 ∧
      (∀ i x Γ' m', ds[i]? = some x → I i Γ' m' → G m' ∧ ARG K g x Γ' m' fun Γ2 m2 => ARSp P K tb Γ2 m2 ⟨I (i + 1), rt, nx, I (i + 1)⟩) ∧
      (∀ Γ' m', I ds.length Γ' m' → G m' ∧ nx Γ' m')
theorem arsp_for (o : UpP P) {wi : TI} {g : TG} {tb : TS} (h : ARI K wi Γ m fun ds G m1 => FORPp P K g tb Γ D.nx D.rt ds G m1) : ARSp P K (tFor wi g tb) Γ m D := fun σ F R H D' p gg c k => by
  refine h σ F R H _ gg c fun J ds G F1 m1 H1 e1 c1 y gm ⟨I, h0, hs, hd⟩ => ?_
  refine ⟨fun i n σ' H' => n = ds.length - i ∧ i ≤ ds.length ∧ ∃ Γ' m' F', Same F1 F' ∧ RG K F' σ' Γ' ∧ Cn K m' F' R H' ∧ I i Γ' m', ⟨ds.length, rfl, Nat.zero_le _, Γ, m1, F1, Same.refl F1, rg_mono e1 gg, c1, h0⟩, ?_⟩
  rintro i n σ2 H2 ⟨rfl, hi, Γ2, m2, F2, e2, g2, c2, i2⟩
  by_cases hlt : i < ds.length
  · have hx : ds[i]? = some ds[i] := List.getElem?_eq_getElem hlt
    obtain ⟨gm2, hbody⟩ := hs i _ Γ2 m2 hx i2
    obtain ⟨go, hy⟩ := y.at_ i _ F2 m2 R H2 hx e2 c2 gm2
    refine .inr ⟨go, fun σ' H' => ∃ Γ' m' F', Same F1 F' ∧ RG K F' σ' Γ' ∧ Cn K m' F' R H' ∧ I (i + 1) Γ' m', fun σ' H' p => ⟨ds.length - (i + 1), by omega, rfl, hlt, p⟩, fun x H3 yx => ?_⟩
    obtain ⟨F3, e3, c3, r3⟩ := hy x H3 yx
    refine hbody x σ2 F3 R H3 _ r3 (rg_mono e3 g2) c3 fun σ4 Γ4 F4 m4 H4 e4 g4 c4 q4 => ?_
    have e14 : Same F1 F4 := (e2.trans e3).trans e4
    refine q4 σ4 F4 R H4 _ (o.up p (e1.trans e14)) g4 c4 ⟨fun σ' Γ' F' m' H' e g' c' q => ⟨Γ', m', F', e14.trans e, g', c', q⟩, fun v x F' m' H' e => k.rt v x F' m' H' ((e1.trans e14).trans e), fun σ' Γ' F' m' H' e => k.nx σ' Γ' F' m' H' ((e1.trans e14).trans e), fun σ' Γ' F' m' H' e g' c' q => ⟨Γ', m', F', e14.trans e, g', c', q⟩⟩
  · have ei : i = ds.length := by omega
    subst ei
    obtain ⟨gm2, hn⟩ := hd Γ2 m2 i2
    exact .inl ⟨y.stop F2 m2 R H2 e2 c2 gm2, k.nx σ2 Γ2 F2 m2 H2 (e1.trans e2) g2 c2 hn⟩
theorem forp_pre {g : TG} {tb : TS} {nx : Sl → Mem → Prop} {rt : S → Mem → Prop} {ds : List S} {G : Mem → Prop} {m1 : Mem} {α : Type} (xs : List α) (F : α → S) (hds : ds = xs.map F) (I : List α → Sl → Mem → Prop) (hG : ∀ pre Γ' m', I pre Γ' m' → G m') (h0 : I [] Γ m1)
    (hs : ∀ pre x post Γ' m', xs = pre ++ x :: post → I pre Γ' m' → ARG K g (F x) Γ' m' fun Γ2 m2 => ARSp P K tb Γ2 m2 ⟨I (pre ++ [x]), rt, nx, I (pre ++ [x])⟩)
    (hd : ∀ Γ' m', I xs Γ' m' → nx Γ' m') : FORPp P K g tb Γ nx rt ds G m1 := by
  subst hds
  refine ⟨fun i => I (xs.take i), h0, fun i x Γ' m' hx hi => ?_, fun Γ' m' hi => ?_⟩
  · rw [List.getElem?_map] at hx
    cases e : xs[i]? with
    | none => rw [e] at hx; cases hx
    | some y =>
      rw [e] at hx; cases hx
      refine ⟨hG _ _ _ hi, ?_⟩
      have z := hs _ y _ Γ' m' (take_pre e) hi
      rw [← take_snoc e] at z
      exact z
  · have hi : I (xs.take (xs.map F).length) Γ' m' := hi
    rw [List.length_map, List.take_length] at hi
    exact ⟨hG _ _ _ hi, hd _ _ hi⟩
/-! a call that may raise -/
theorem arp_callS {n : Nat} {fs : FSX} {ta : TA} (o : UpP P) (w : WOK P K W Y) (h : ARA K ta Γ m fun xs m1 => LFX n fs xs m1 Q fun C fl m2 => Y C fl Γ m2) : ARp P K (tCallS (toSpX K (LFX n fs)) (WE W) ta) Γ m Q := fun σ F R H Q' p g c k =>
  h σ F R H _ g c fun vs xs F1 m1 H1 e1 c1 r1 q1 => ⟨F1, R, m1, xs, Q, _, c1, r1, q1, fun v x F' m' H' e c' r q => k v x F' m' H' (e1.trans e) c' r q, fun C d fl F' m' H' e c' xf q => w.ok (o.up p (e1.trans e)) (rg_mono (e1.trans e) g) c' xf q⟩
/-- o.m(..) that may raise -/
def tMethS (C : Addr) (m : Str) (sp : Sp) (E : L2.St → XK) (ta : TE) (t : TA) : TE := fun σ H Q => ta σ H fun x H1 => ∃ a dx fs, x = .ref a ∧ H1 a = some (.ins C dx fs) ∧ fs.lookup m = none ∧ t σ H1 fun vs H2 => sp (x :: vs) H2 Q (E σ)
theorem arp_methS {C : Addr} {f : Str} {n : Nat} {fs : FSX} {to : TE} {ta : TA} (o : UpP P) (w : WOK P K W Y) (h : AR K to Γ m fun x m1 => ∃ a dx fl, x = .r a ∧ m1 a = some (.ins C dx fl) ∧ fl.lookup f = none ∧ ARA K ta Γ m1 fun xs m2 => LFX n fs (x :: xs) m2 Q fun C fl m3 => Y C fl Γ m3) : ARp P K (tMethS C f (toSpX K (LFX n fs)) (WE W) to ta) Γ m Q := fun σ F R H Q' p g c k =>
  h σ F R H _ g c fun v x F1 m1 H1 e1 c1 r1 q1 => by
    obtain ⟨a, dx, fl, rfl, hm, hl, q⟩ := q1
    obtain ⟨vs, ho, pr⟩ := own_ins c1 hm
    refine ⟨a, dx, vs, r1, ho, rf_no pr hl, q σ F1 R H1 _ (rg_mono e1 g) c1 fun us xs F2 m2 H2 e2 c2 r2 q2 => ?_⟩
    exact ⟨F2, R, m2, .r a :: xs, Q, _, c2, .cons (rs_mono e2 r1) r2, q2, fun v x F' m' H' e c' r q => k v x F' m' H' ((e1.trans e2).trans e) c' r q, fun C d fl F' m' H' e c' xf q => w.ok (o.up p ((e1.trans e2).trans e)) (rg_mono ((e1.trans e2).trans e) g) c' xf q⟩
/-- C(..) whose __init__ may raise -/
def tMakeS (C : Addr) (sp : Sp) (E : L2.St → XK) (t : TA) : TE := fun σ H Q => t σ H fun vs H1 => ∀ x dx, H1 x = none → H1 dx = none → dx ≠ x →
  sp (.ref x :: vs) (upd (upd H1 dx (.own x)) x (.ins C dx [])) (fun v H2 => v = .non ∧ Q (.ref x) H2) (E σ)
theorem arp_makeS {C : Addr} {n : Nat} {fs : FSX} {ta : TA} (o : UpP P) (w : WOK P K W Y) (h : ARA K ta Γ m fun xs m1 => ∀ p dx, m1 p = none → LFX n fs (.r p :: xs) (mset m1 p (.ins C dx [])) (fun x m2 => x = .d .none ∧ Q (.r p) m2) fun C fl m3 => Y C fl Γ m3) : ARp P K (tMakeS C (toSpX K (LFX n fs)) (WE W) ta) Γ m Q := fun σ F R H Q' p0 g c k =>
  h σ F R H _ g c fun us xs F1 m1 H1 e1 c1 r1 q1 => fun p dx hp hdx ne => by
    have c2 := cn_newF (o := .own p) c1 hdx
    have hp2 : upd H1 dx (.own p) p = none := by rw [upd_ne (Ne.symm ne)]; exact hp
    have c3 := cn_newO (o := .ins C dx []) (x := .ins C dx []) c2 hp2 ⟨rfl, rfl, .nil⟩
    have e2 := same_new (o := .own p) (cn_fresh c1 hdx).1
    refine ⟨_, R, _, .r p :: xs, _, _, c3, .cons rfl (rss_mono e2 r1), q1 p dx (cn_fresh c1 hp).2.1, fun v x F' m' H' e c' r q => ?_, fun C d fl F' m' H' e c' xf q => w.ok (o.up p0 ((e1.trans e2).trans e)) (rg_mono ((e1.trans e2).trans e) g) c' xf q⟩
    obtain ⟨rfl, q⟩ := q
    cases r
    exact ⟨rfl, k (.ref p) (.r p) F' m' H' ((e1.trans e2).trans e) c' rfl q⟩
/-! raise -/
/-- __init__ of an own exception: the base's __init__, one field -/
def spXI (K : PySem.W.Frag) (C : Addr) (f : Str) : Sp := fun vs H Q _ => ∃ (a : Addr) (v : V), vs = [.ref a, v] ∧ H a = some (exo a C none) ∧ ∀ dx, H dx = none → dx ≠ a → Q .non (upd (upd H dx (exd dx [(f, v)])) a (exo a C (some dx)))
def tRzX (K : PySem.W.Frag) (C : Addr) (f : Str) (W : WX) (te : TE) : TS := fun _ σ H => tMkO C (spXI K C f) [] (tCons te tNil) σ H fun cls d H' => W cls d σ H'
theorem arsp_raise {C : Addr} {f : Str} (o : UpP P) (w : WOK P K W Y) (h : AR K te Γ m fun x m1 => ∃ y, x = .d y ∧ Y C [(f, y)] Γ m1) : ARSp P K (tRzX K C f W te) Γ m D := fun σ F R H D' p g c k => by
  refine h σ F R H _ g c fun v x F1 m1 H1 e1 c1 r1 ⟨y, hy, q⟩ => ?_
  subst hy
  refine ⟨by simp, fun a ha => ⟨a, v, rfl, upd_same, fun dx hdx ne => ⟨rfl, dx, [(f, v)], upd_same, by rw [upd_ne ne, upd_same], ?_, ?_⟩⟩⟩
  · rw [upd_ne ne] at hdx; exact hdx
  · rw [upd_ne ne] at hdx
    have e : (upd (del (upd (upd (upd H1 a (exo a C none)) dx (exd dx [(f, v)])) a (exo a C (some dx))) a) dx (.xd [(f, v)])) = upd H1 dx (.xd [(f, v)]) := by
      funext b
      by_cases hb : b = dx
      · subst hb; rw [upd_same, upd_same]
      · rw [upd_ne hb, upd_ne hb]
        by_cases hba : b = a
        · subst hba; rw [del_same, ha]
        · rw [del_ne hba, upd_ne hba, upd_ne hb, upd_ne hba]
    rw [e]
    have e2 := same_new (o := .xd [(f, v)]) (cn_fresh c1 hdx).1
    exact w.ok (o.up p (e1.trans e2)) (rg_mono (e1.trans e2) g) (cn_newF c1 hdx) (.inr ⟨dx, [(f, v)], rfl, upd_same, .cons ⟨rfl, dp_mono e2 (show Dq K F1 v y from r1)⟩ .nil⟩) q
/-- .. of a class without __init__ -/
theorem arsp_raise0 {C : Addr} (w : WOK P K W Y) (h : Y C [] Γ m) : ARSp P K (fun _ σ H => W (.ref C) none σ H) Γ m D := fun σ F R H D' p g c k => w.ok p g c (.inl ⟨rfl, rfl⟩) h
/-! try -/
theorem ars_tryK {tb : WX → TS} {ts : TS} {c : Value} {i : Nat}
    (h : ∀ (P : Hp → Hp → Prop) (W : WX), UpP P → WOK P K W Y → ARSp P K (tb W) Γ m D)
    (hs : ∀ C fl Γ' m', Y C fl Γ' m' → PySem.W.exmOne K (.ref C) c = some true ∧ ARS K ts (Γ'.set i (some (.x C fl))) m' { nx := fun Γ2 m2 => D.nx (Γ2.set i none) m2, rt := D.rt, bk := fun Γ2 m2 => D.bk (Γ2.set i none) m2, ct := fun Γ2 m2 => D.ct (Γ2.set i none) m2 }) :
    ARS K (tTryK K c i ts tb) Γ m D := fun σ F R H D' g c' k => by
  refine h (fun F' R' => Same F F' ∧ R' = R) (wAsK K c i ts (fun _ _ _ _ => False) D') ⟨fun {F1 F2 R1} p e => ⟨p.1.trans e, p.2⟩⟩ ⟨?_⟩ σ F R H D' ⟨Same.refl F, rfl⟩ g c' k
  rintro F1 R1 H1 m1 σ1 Γ1 C d fl ⟨e1, rfl⟩ g1 c1 xf y
  obtain ⟨h1, h2⟩ := hs C fl Γ1 m1 y
  refine ⟨true, h1, fun _ => ⟨C, rfl, fun a ha => ?_⟩, fun q => Bool.noConfusion q⟩
  have e2 := same_new (o := exK a C d) (cn_fresh c1 ha).1
  have e3 := e1.trans e2
  refine h2 _ _ _ _ _ (rg_set (rg_mono e2 g1) (v := .ref a) (x := .x C fl) (show RS K (upd F1 a (exK a C d)) (.ref a) (.x C fl) from ⟨a, d, rfl, upd_same, xf_mono e2 xf⟩) i) (cn_newF c1 ha) ⟨fun σ Γ F' m' H' e g c q => k.nx _ _ F' m' H' (e3.trans e) (rg_none g i) c q, fun v x F' m' H' e c r q => k.rt v x F' m' H' (e3.trans e) c r q, fun σ Γ F' m' H' e g c q => k.bk _ _ F' m' H' (e3.trans e) (rg_none g i) c q, fun σ Γ F' m' H' e g c q => k.ct _ _ F' m' H' (e3.trans e) (rg_none g i) c q⟩
end
/-! ### defs that raise -/
section
variable {P : Program} {w : World} {K : PySem.W.Frag} {mg : Str → Option Value} {base : Heap}
structure CalX (P : Program) (w : World) (K : PySem.W.Frag) (mg : Str → Option Value) (base : Heap) (k n : Nat) (x : Str) (fs : FSX) : Prop where
  ex : ∃ (f : Addr) (fd : FuncData) (ps : List Str), FnOk P w K mg base (L2.CX P w) k f fd ps (toSpX K (LFX n fs)) ∧ mg x = some (.ref f) ∧ PySem.W.keepIn K (.ref f) = true ∧ Binds K fd ps []
structure CalMX (P : Program) (w : World) (K : PySem.W.Frag) (mg : Str → Option Value) (base : Heap) (k n : Nat) (C : Addr) (m : Str) (fs : FSX) : Prop where
  ex : ∃ (f : Addr) (fd : FuncData) (ps : List Str), FnOk P w K mg base (L2.CX P w) k f fd ps (toSpX K (LFX n fs)) ∧ Meth K C m f ∧ Binds K fd ps []
structure CalIX (P : Program) (w : World) (K : PySem.W.Frag) (mg : Str → Option Value) (base : Heap) (k n : Nat) (C : Addr) (fs : FSX) : Prop where
  ex : ∃ (f : Addr) (fd : FuncData) (ps : List Str), FnOk P w K mg base (L2.CX P w) k f fd ps (toSpX K (LFX n fs)) ∧ Mk K C f ∧ Binds K fd ps []
theorem fn_dlX {x qual : Str} {st : Stmt} {f : Addr} {fd : FuncData} {N ps : List Str} {k : Nat} {fs : FSX} (F : Fun K x qual st f fd) (S : FnScope N ps (defScope st))
    (hbody : ∀ (cdv : Value) (A : Around) (outer : List Env) (s : Shared) (H : Hp) (E : XK), Room k (A.deeper (envOfC qual (defScope st) s.heap.objs.size f cdv)) →
      ∃ t, PSs (cxOf (L2.CX P w) P w K mg base N qual (defScope st) f cdv A outer s H E) (defBody st) t ∧
        ∀ (PP : Hp → Hp → Prop) xs m Z (Y : EXS), UpP PP → WOK PP K (fun cls d _ H' => E cls d H') (fun C fl _ m' => Y C fl m') → fs xs m Z Y → ARSp PP K t (xs.map some ++ List.replicate (N.length - xs.length) none) m { nx := fun _ m' => RT Z (.d .none) m', rt := RT Z }) : FnOk P w K mg base (L2.CX P w) (k + 1) f fd ps (toSpX K (LFX ps.length fs)) := by
  refine F.okX S (fun vs H Q E ⟨F, R, m, xs, Z, Y, _, r, h, _⟩ => (pr_len r).trans h.1) fun cdv A outer s H vs Q E hr ⟨F, R, m, xs, Z, Y, c, r, ⟨_, h⟩, k, kx⟩ => ?_
  obtain ⟨t, ht, hb⟩ := hbody cdv A outer s H E hr
  have go : ∀ v x F' m' H', Same F F' → Cn K m' F' R H' → RS K F' v x → RT Z x m' → Q v H' := fun v x F' m' H' e c' r' hq => by
    obtain ⟨m2, l, q | ⟨d, rp, q⟩⟩ := hq
    · exact k v x _ m2 H' (e.trans (frzF_same c')) (cn_frz c' l) (rs_mono (frzF_same c') r') q
    · exact k v (.d d) _ m2 H' (e.trans (frzF_same c')) (cn_frz c' l) (rp_dp c' rp r') q
  refine ⟨t, ht, hb (fun F' R' => Same F F' ∧ R' = R) xs m Z Y ⟨fun {F1 F2 R1} p e => ⟨p.1.trans e, p.2⟩⟩ ⟨?_⟩ h (L2.start N vs) F R H _ ⟨Same.refl F, rfl⟩ (rg_start r N) c ⟨fun σ Γ F' m' H' e _ c' q => go _ (.d .none) F' m' H' e c' Dq.non q, go, fun _ _ _ _ _ _ _ _ z => z.elim, fun _ _ _ _ _ _ _ _ z => z.elim⟩⟩
  rintro F1 R1 H1 m1 σ1 Γ1 C d fl ⟨e1, rfl⟩ g1 c1 xf y
  exact kx C d fl F1 m1 H1 e1 c1 xf y
theorem calx_dl {x : Str} {st : Stmt} {N ps : List Str} {k : Nat} {fs : FSX} (T : Top K mg x st ps) (S : FnScope N ps (defScope st))
    (hbody : ∀ (f : Addr) (cdv : Value) (A : Around) (outer : List Env) (s : Shared) (H : Hp) (E : XK), Room k (A.deeper (envOfC x (defScope st) s.heap.objs.size f cdv)) →
      ∃ t, PSs (cxOf (L2.CX P w) P w K mg base N x (defScope st) f cdv A outer s H E) (defBody st) t ∧
        ∀ (PP : Hp → Hp → Prop) xs m Z (Y : EXS), UpP PP → WOK PP K (fun cls d _ H' => E cls d H') (fun C fl _ m' => Y C fl m') → fs xs m Z Y → ARSp PP K t (xs.map some ++ List.replicate (N.length - xs.length) none) m { nx := fun _ m' => RT Z (.d .none) m', rt := RT Z }) : CalX P w K mg base (k + 1) ps.length x fs := by
  obtain ⟨f, fd, F, hm, b⟩ := T.ex
  exact ⟨f, fd, ps, fn_dlX F S (hbody f), hm, F.kp, .all b⟩
theorem calmx_dl {C : Addr} {qual m : Str} {st : Stmt} {N ps : List Str} {k : Nat} {fs : FSX} (T : TopM K C qual m st ps) (S : FnScope N ps (defScope st))
    (hbody : ∀ (f : Addr) (cdv : Value) (A : Around) (outer : List Env) (s : Shared) (H : Hp) (E : XK), Room k (A.deeper (envOfC qual (defScope st) s.heap.objs.size f cdv)) →
      ∃ t, PSs (cxOf (L2.CX P w) P w K mg base N qual (defScope st) f cdv A outer s H E) (defBody st) t ∧
        ∀ (PP : Hp → Hp → Prop) xs m Z (Y : EXS), UpP PP → WOK PP K (fun cls d _ H' => E cls d H') (fun C fl _ m' => Y C fl m') → fs xs m Z Y → ARSp PP K t (xs.map some ++ List.replicate (N.length - xs.length) none) m { nx := fun _ m' => RT Z (.d .none) m', rt := RT Z }) : CalMX P w K mg base (k + 1) ps.length C m fs := by
  obtain ⟨f, fd, F, hm, b⟩ := T.ex
  exact ⟨f, fd, ps, fn_dlX F S (hbody f), hm, .all b⟩
theorem calix_dl {C : Addr} {qual : Str} {st : Stmt} {N ps : List Str} {k : Nat} {fs : FSX} (T : TopI K C qual st ps) (S : FnScope N ps (defScope st))
    (hbody : ∀ (f : Addr) (cdv : Value) (A : Around) (outer : List Env) (s : Shared) (H : Hp) (E : XK), Room k (A.deeper (envOfC qual (defScope st) s.heap.objs.size f cdv)) →
      ∃ t, PSs (cxOf (L2.CX P w) P w K mg base N qual (defScope st) f cdv A outer s H E) (defBody st) t ∧
        ∀ (PP : Hp → Hp → Prop) xs m Z (Y : EXS), UpP PP → WOK PP K (fun cls d _ H' => E cls d H') (fun C fl _ m' => Y C fl m') → fs xs m Z Y → ARSp PP K t (xs.map some ++ List.replicate (N.length - xs.length) none) m { nx := fun _ m' => RT Z (.d .none) m', rt := RT Z }) : CalIX P w K mg base (k + 1) ps.length C fs := by
  obtain ⟨f, fd, F, hm, b⟩ := T.ex
  exact ⟨f, fd, ps, fn_dlX F S (hbody f), hm, .all b⟩
/-- an own exception class with one field, its __init__ -/
structure TopX (K : PySem.W.Frag) (C : Addr) (qual f : Str) (st : Stmt) : Prop where
  T : OexC K C
  no : PySem.W.findIn K (.ref C) f = some none
  ex : ∃ (fI : Addr) (fd : FuncData), Fun K "__init__" qual st fI fd ∧ PySem.W.findIn K (.ref C) "__init__" = some (some (.ref fI)) ∧ PySem.W.typeIn K (.ref fI) = some (.type "function") ∧ ∀ us : List Value, us.length = 2 → bindArgs fd ⟨us, []⟩ = pure ((["self", f] : List Str).zip us)
/-- the base class's __init__ -/
structure BaseX (K : PySem.W.Frag) (mg : Str → Option Value) (x : Str) : Prop where
  ex : ∃ C : Addr, mg x = some (.ref C) ∧ PySem.W.readsIn K C (.type "type") = true ∧ PySem.W.specialIn K (.ref C) "__getattribute__" = some (some (.builtin "type.__getattribute__")) ∧ PySem.W.findCls K (.ref C) (.type "type") "__init__" = some (.val (.builtin "ValueError.__init__"))
structure CalXI (P : Program) (w : World) (K : PySem.W.Frag) (mg : Str → Option Value) (base : Heap) (k : Nat) (C : Addr) (f : Str) : Prop where
  ex : ∃ (fI : Addr) (fd : FuncData), OexC K C ∧ PySem.W.findIn K (.ref C) "__init__" = some (some (.ref fI)) ∧ PySem.W.typeIn K (.ref fI) = some (.type "function") ∧ FnOk P w K mg base CX0 k fI fd ["self", f] (spXI K C f) ∧ Binds K fd ["self", f] []
end
section
variable {X : Cx} {x : Str} {e : Expr} {es : List Expr} {ta : TA} {p1 p2 pos : Pos}
theorem pe_xinit {pl : Sem Bool} (hg : Gl X x) (B : BaseX X.K X.mg x) (ha : PA X (e :: es) ta)
    (hc : eval (.Call (.Attribute (.Name x p1) "__init__" p2) (e :: es) [] pos) X.env = (do
      let ov ← eval (.Name x p1) X.env
      standAt p2.atName
      let (f, first) ← holding [ov] (getMethod ov "__init__" pl)
      callWith pos f first (backTo pos (starEach (e :: es) X.env)) (backToKw pos (keywordEach [] X.env))) := by rfl)
    (hdb : (x == ("__debug__" : Str)) = false := by decide)
    (he : starEach (e :: es) X.env = (false, eval e X.env) :: starEach es X.env := by rfl) (hpl : (backTo pos (starEach es X.env)).any (·.1) = false := by rfl) :
    PE X (.Call (.Attribute (.Name x p1) "__init__" p2) (e :: es) [] pos) (tVeI X.K ta) := by
  obtain ⟨C, hm, hr, hga, hf⟩ := B.ex
  refine ⟨fun pins s σ H Q I h => ?_⟩
  refine PySem.W.methodCall_KW (ld_glob I hg hm ?_ hdb) hc
  refine PySem.W.method_cls I.kIn hga (PySem.W.cls_value I.kIn hr hf (by decide +kernel) ?_)
  show wpAny _ _ (callWith pos (Value.builtin "ValueError.__init__") [] (backTo pos (starEach (e :: es) X.env)) []) _ _ _
  refine PyProof.Rows.callWith_method1 (thn (ha.run pos pins _ σ H _ (I.tok _) h) fun us s1 ⟨vs, H1, I1, r1, a, C, ws, ev, hl, T, ea, q⟩ => ?_) he hpl
  subst ev
  cases r1 with
  | @cons _ u0 _ ur ra rw' =>
    obtain rfl : u0 = Value.ref a := ra
    have hlen : ur.length ≤ sizeLine := by
      rw [← Paired.length rw', sizeLine_eq]
      omega
    exact oinit_ok T I1 ea hlen fun s' J => ⟨.non, H1, J, rfl, q⟩
end
section
variable {P : Program} {w : World} {K : PySem.W.Frag} {mg : Str → Option Value} {base : Heap}
theorem calxi_dl {C : Addr} {qual f z : Str} {st : Stmt} (T : TopX K C qual f st) (S : FnScope ["self", f] ["self", f] (defScope st))
    (hbody : ∀ (fI : Addr) (cdv : Value) (A : Around) (outer : List Env) (s : Shared) (H : Hp) (E : XK),
      PSs (cxOf CX0 P w K mg base ["self", f] qual (defScope st) fI cdv A outer s H E).nox (defBody st) (tSeq (tDrop (tVeI K (tCons (tVar 0) (tCons (tC (.str z)) tNil)))) (tOst K f (tVar 0) (tVar 1)))) : CalXI P w K mg base 1 C f := by
  obtain ⟨fI, fd, F, h1, h2, b⟩ := T.ex
  refine ⟨fI, fd, T.T, h1, h2, F.ok S (fun vs H Q E ⟨a, v, e, _⟩ => by rw [e]; rfl) fun cdv A outer s H vs Q E hr ⟨a, v, e, ha, q⟩ => ⟨_, hbody fI cdv A outer s H E, ?_⟩, .all b⟩
  subst e
  refine ⟨_, rfl, a, C, [V.str z], rfl, by simp, T.T, ha, ?_⟩
  refine ⟨_, rfl, _, rfl, a, C, rfl, T.T, T.no, .inl ⟨ha, fun dx hdx ne => q dx hdx ne⟩⟩
end
section
variable {X : Cx} {K : PySem.W.Frag} {C : Addr} {k j n : Nat} {m x f : Str} {fs : FSX} {o e : Expr} {es : List Expr} {p apos pos pos2 : Pos} {te to : TE} {t : TA} {W : WX}
theorem ps_rzK (h : X.K = K) (hc : X.calm = true) (tk : Takes X W) (c : CalXI X.prog X.w K X.mg X.base k C f) (hr : Room j X.A) (hk : k + 1 ≤ j) (hg : Gl X x) (hm : X.mg x = some (.ref C)) (ha : PE X e te)
    (hdb : (x == ("__debug__" : Str)) = false := by decide) (he : starEach [e] X.env = (false, eval e X.env) :: starEach [] X.env := by rfl) (hpl : (backTo pos (starEach [] X.env)).any (·.1) = false := by rfl) :
    PS X (.Raise (some (.Call (.Name x p) [e] [] pos)) none pos2) (tRzX K C f W te) := by
  subst h
  obtain ⟨fI, fd, T, i1, i2, F, b⟩ := c.ex
  exact ps_raise hc tk (pmk_oex T i1 i2 F (hr.mono hk) b .nil pass0 hg hm (pa_cons ha pa_nil (hs := he)) hdb he hpl)
theorem ps_rz0K {bmB : List Value} {B newId initId : String} {z : Str} {i : Nat} {p2 : Pos} (hc : X.calm = true) (tk : Takes X W) (F : ExcBaseFacts B newId initId bmB) (q : PySem.W.excIn X.K C bmB newId = true) (gC : X.mg x = some (.ref C)) (kC : PySem.W.keepIn X.K (.ref C) = true) (r : Raises X (.ref C)) (hg : Gl X x) (hdb : (x == ("__debug__" : Str)) = false := by decide) :
    PS X (.Raise (some (.Call (.Name x p) [.Constant (.str z) i p2] [] pos)) none pos2) (fun _ σ H => W (.ref C) none σ H) := ps_raise hc tk (pmk_own F q gC kC r hg hdb)
theorem pe_fSK (h : X.K = K) (c : CalX X.prog X.w K X.mg X.base k n x fs) (hr : Room j X.A) (hk : k ≤ j) (tk : Takes X W) (hg : Gl X x) (ha : PA X (e :: es) t)
    (hdb : (x == ("__debug__" : Str)) = false := by decide) (he : starEach (e :: es) X.env = (false, eval e X.env) :: starEach es X.env := by rfl) (hpl : (backTo pos (starEach es X.env)).any (·.1) = false := by rfl) :
    PE X (.Call (.Name x p) (e :: es) [] pos) (tCallS (toSpX K (LFX n fs)) (WE W) t) := by
  subst h
  obtain ⟨f, fd, ps, F, hm, kp, b⟩ := c.ex
  exact pe_callS F (hr.mono hk) hg hm kp b (fun σ => passAt tk σ) ha hdb he hpl
theorem run_makeS {CX : CXT} {k : Nat} {f C : Addr} {fd : FuncData} {ps : List Str} {sp : Sp} {E : XK} {pins : List (Addr × Obj)} {σ : L2.St} {H : Hp} {s : Shared} {Q : VK} {us : List Value} {vs : List V} (M : Mk X.K C f) (F : FnOk X.prog X.w X.K X.mg X.base CX k f fd ps sp) (hr : Room (k + 1) X.A) (hb : Binds X.K fd ps [])
    (hx : PassesAt CX X σ E) (I : Inv X pins σ H s) (r : Vals vs us)
    (h : ∀ x dx, H x = none → H dx = none → dx ≠ x → sp (.ref x :: vs) (upd (upd H dx (.own x)) x (.ins C dx [])) (fun v H2 => v = .non ∧ Q (.ref x) H2) E) :
    wpAny (model X.prog X.w) X.A (call (.ref C) us) (EP X pins σ Q) X.xe s := by
  have hq := h (s.heap.objs.size + 1) s.heap.objs.size (I.hok.fresh (Nat.le_succ _)) (I.hok.fresh (Nat.le_refl _)) (Nat.ne_of_lt (Nat.lt_succ_self _))
  have I2 := Inv.made (C := C) I
  have r2 : Vals (V.ref (s.heap.objs.size + 1) :: vs) (Value.ref (s.heap.objs.size + 1) :: us) := .cons rfl r
  have hl : (Value.ref (s.heap.objs.size + 1) :: us).length = ps.length := by
    have e := r2.length
    rw [F.len _ _ _ _ hq] at e
    exact e.symm
  have b := hb _ (Value.ref (s.heap.objs.size + 1) :: us) I2.kIn (by rw [List.append_nil]; exact hl)
  rw [List.append_nil] at b
  refine wpAny_call (make_map (f := f) I.kIn M.makes M.init (beq_iff_eq.mp M.fn) (codeAny_mono (F.run _ X.stack _ _ ⟨Value.ref (s.heap.objs.size + 1) :: us, []⟩ (Value.ref (s.heap.objs.size + 1) :: us) _ _ E (hr.make C us [])
    (I2.env0.make C us []) b r2 hq) fun r s' hq' => ?_))
  cases r with
  | error e => exact hx pins _ _ e s' I2 hq'
  | ok fl =>
    cases fl with
    | ret u =>
      obtain ⟨v, H', I3, rv, ev, q3⟩ := I2.after hq'
      subst ev
      exact ⟨rv, ⟨V.ref (s.heap.objs.size + 1), H', I3, rfl, q3⟩⟩
    | next => exact False.elim hq'
    | brk => exact False.elim hq'
    | cont => exact False.elim hq'
theorem pe_mkSK (h : X.K = K) (c : CalIX X.prog X.w K X.mg X.base k n C fs) (hr : Room j X.A) (hk : k + 1 ≤ j) (tk : Takes X W) (hg : Gl X x) (hm : X.mg x = some (.ref C)) (ha : PA X (e :: es) t)
    (hdb : (x == ("__debug__" : Str)) = false := by decide) (he : starEach (e :: es) X.env = (false, eval e X.env) :: starEach es X.env := by rfl) (hpl : (backTo pos (starEach es X.env)).any (·.1) = false := by rfl) :
    PE X (.Call (.Name x p) (e :: es) [] pos) (tMakeS C (toSpX K (LFX n fs)) (WE W) t) := by
  subst h
  obtain ⟨f, fd, ps, F, M, b⟩ := c.ex
  refine ⟨fun pins s σ H Q I h => ?_⟩
  refine wpAny_Call_Name_kw (ld_glob I hg hm ?_ hdb)
  refine PySem.W.callWith_K (h₀ := X.base) I.ok.mod.kin M.kp (thn (ha.run pos pins s σ H _ I h) fun us s1 ⟨vs, H1, I1, r, q⟩ => ⟨I1.kIn, ?_⟩) he hpl
  exact run_makeS M F (hr.mono hk) b (passAt tk σ) I1 r q
theorem pe_mSK {pl : Sem Bool} (h : X.K = K) (c : CalMX X.prog X.w K X.mg X.base k n C m fs) (hr : Room j X.A) (hk : k ≤ j) (tk : Takes X W) (cl : Cls K C) (he : PE X o to) (ha : PA X (e :: es) t)
    (hst : starEach (e :: es) X.env = (false, eval e X.env) :: starEach es X.env := by rfl) (hpl : (backTo pos (starEach es X.env)).any (·.1) = false := by rfl)
    (ht : eval (.Call (.Attribute o m apos) (e :: es) [] pos) X.env = (do
      let ov ← eval o X.env
      standAt apos.atName
      let (f, first) ← holding [ov] (getMethod ov m pl)
      callWith pos f first (backTo pos (starEach (e :: es) X.env)) (backToKw pos (keywordEach [] X.env))) := by rfl) :
    PE X (.Call (.Attribute o m apos) (e :: es) [] pos) (tMethS C m (toSpX K (LFX n fs)) (WE W) to t) := by
  subst h
  obtain ⟨f, fd, ps, F, hm, b⟩ := c.ex
  refine ⟨fun pins s σ H Q I h => ?_⟩
  refine PySem.W.methodCall_KW (pl := pl) (thn (he.run pins s σ H _ I h) fun u s1 ⟨x, H1, I1, rx, a, dx, fs, ex, ea, l, q⟩ => ?_) ht
  subst ex
  obtain rfl : u = Value.ref a := rx
  refine getmeth_ok I1 ea cl hm l ?_
  refine PySem.W.callWith_K (first := [.ref a]) (h₀ := X.base) I.ok.mod.kin hm.kp (thn (ha.run pos pins s1 σ H1 _ I1 q) fun us s2 ⟨vs, H2, I2, r, q2⟩ => ⟨I2.kIn, ?_⟩) hst hpl
  exact run_fnS (us := .ref a :: us) (vs := .ref a :: vs) F (hr.mono hk) b (passAt tk σ) I2 (.cons rfl r) q2
end
end DL

local macro_rules | `(tactic| walk_at "mem") => `(tactic| first
  | assumption
  | exact DL.mset_same
  | (refine (DL.mset_ne ?_).trans ?_; (first | assumption | exact Ne.symm (by assumption)); walk_at "mem")
  | (refine (DL.ll_no ?_).trans ?_; assumption; walk_at "mem"))
open PySem PySem.Spec PyProof.Rows L2 DL in
local macro_rules | `(tactic| walk_at "lk") => `(tactic| first | exact lk_h | exact lk_0 | (refine' lk_t ?hd ?ht; (case hd => decide +kernel); (case ht => walk_at "lk")) | (refine' lk_n ?hd ?ht; (case hd => decide +kernel); (case ht => walk_at "lk")))
open PySem PySem.Spec PyProof.Rows L2 DL in
local macro_rules | `(tactic| walk_at "put") => `(tactic| first | exact PutR.nil | exact PutR.here | (refine' PutR.there ?hd ?ht; (case hd => decide +kernel); (case ht => walk_at "put")))
open PySem PySem.Spec PyProof.Rows L2 DL in
local macro_rules | `(tactic| walk_at "ARS") => `(tactic| first
  | with_reducible refine ars_seq ?_
  | with_reducible refine ars_ret ?_
  | with_reducible refine ars_drop ?_
  | with_reducible refine ars_next ?_
  | with_reducible refine ars_break ?_
  | with_reducible refine ars_cont ?_
  | with_reducible refine ars_asg ?_
  | with_reducible refine ars_asgO ?_
  | with_reducible refine ars_asgOL ?_
  | with_reducible refine ars_if ?_
  | with_reducible refine ars_forP ?_
  | with_reducible refine ars_fld ?_
  | with_reducible refine ars_par ?_
  | ((with_reducible refine' ars_aug ?hv ?_); (case hv => exact rfl)))
open PySem PySem.Spec PyProof.Rows L2 DL in
local macro_rules | `(tactic| walk_at "AR") => `(tactic| first
  | ((with_reducible refine' ar_var ?hv ?_); (case hv => exact rfl))
  | with_reducible refine ar_op ?_
  | with_reducible refine ar_call ?_
  | with_reducible refine ar_int ?_
  | with_reducible refine ar_lcLL ?_
  | with_reducible refine ar_lcDP ?_
  | with_reducible refine ar_str ?_
  | with_reducible refine ar_bl ?_
  | with_reducible refine ar_non ?_
  | with_reducible refine ar_un ?_
  | with_reducible refine ar_isi2 ?_
  | with_reducible refine ar_cb ?_
  | with_reducible refine ar_nilO ?_
  | with_reducible refine ar_lstO ?_
  | with_reducible refine ar_lstRg0O ?_
  | with_reducible refine ar_lstRg0 ?_
  | ((with_reducible refine ar_lcO ?_))
  | ((with_reducible refine ar_tupOO ?_))
  | with_reducible refine ar_own ?_
  | with_reducible refine ar_lstD ?_
  | with_reducible refine ar_tup ?_
  | with_reducible refine ar_if ?_
  | with_reducible refine ar_andV ?_
  | with_reducible refine ar_orV ?_
  | with_reducible refine ar_notV ?_
  | with_reducible refine ar_sl ?_
  | with_reducible refine ar_revL ?_
  | with_reducible refine ar_fld ?_
  | with_reducible refine ar_meth ?_
  | with_reducible refine ar_make ?_
  | with_reducible refine ar_ty ?_
  | with_reducible refine ar_bm ?_
  | with_reducible refine ar_bm0 ?_
  | with_reducible refine ar_chain ?_)
open PySem PySem.Spec PyProof.Rows L2 DL in
local macro_rules | `(tactic| walk_at "ARI") => `(tactic| first
  | with_reducible refine ari_list ?_
  | with_reducible refine ari_range1 ?_
  | with_reducible refine ari_range2 ?_
  | with_reducible refine ari_enum ?_
  | with_reducible refine ari_zip ?_
  | with_reducible refine ari_zipX ?_
  | with_reducible refine ari_rev ?_)
open PySem PySem.Spec PyProof.Rows L2 DL in
local macro_rules | `(tactic| walk_at "ItL") => `(tactic| first
  | with_reducible refine itl_d ?_
  | with_reducible refine itl_s ?_)
open PySem PySem.Spec PyProof.Rows L2 DL in
local macro_rules | `(tactic| walk_at "ARGw") => `(tactic| first
  | with_reducible refine argw_name (by decide) ?_
  | ((with_reducible refine' argw_tup ?hv ?_); (case hv => exact rfl); dsimp only [List.map]))
open PySem PySem.Spec PyProof.Rows L2 DL in
local macro_rules | `(tactic| walk_at "ARGsw") => `(tactic| first
  | with_reducible refine argsw_cons ?_
  | with_reducible refine argsw_nil ?_)
open PySem PySem.Spec PyProof.Rows L2 DL in
local macro_rules | `(tactic| walk_at "ARG") => `(tactic| first
  | with_reducible refine arg_name ?_
  | with_reducible refine arg_sub ?_
  | ((with_reducible refine' arg_tupO ?hm ?hv ?_); (case hm => walk_at "mem"); (case hv => exact rfl))
  | ((with_reducible refine' arg_tup ?hv ?_); (case hv => exact rfl); dsimp only [List.map]))
open PySem PySem.Spec PyProof.Rows L2 DL in
local macro_rules | `(tactic| walk_at "ARGs") => `(tactic| first
  | with_reducible refine args_cons ?_
  | with_reducible refine args_nil ?_)
open PySem PySem.Spec PyProof.Rows L2 DL in
local macro_rules | `(tactic| walk_at "LF") => `(tactic| first
  | ((with_reducible refine' lf_in ?hv ?_); (case hv => exact rfl)))
open PySem PySem.Spec PyProof.Rows L2 DL in
local macro_rules | `(tactic| walk_at "ARO") => `(tactic| first
  | with_reducible refine aro_none ?_
  | with_reducible refine aro_some ?_)
open PySem PySem.Spec PyProof.Rows L2 DL in
local macro_rules | `(tactic| walk_at "ARA") => `(tactic| first
  | with_reducible refine ara_nil ?_
  | with_reducible refine ara_cons ?_)
open PySem PySem.Spec PyProof.Rows L2 DL in
local macro_rules | `(tactic| walk_at "ART") => `(tactic| first
  | with_reducible refine art_test ?_
  | with_reducible refine art_tb ?_
  | with_reducible refine art_and ?_
  | with_reducible refine art_or ?_
  | with_reducible refine art_not ?_
  | with_reducible refine art_yes ?_)
open PySem PySem.Spec PyProof.Rows L2 DL in
local macro_rules | `(tactic| walk_at "LO") => `(tactic| first
  | with_reducible refine plus_i ?_
  | with_reducible refine lo_i0 ?_
  | with_reducible refine lo_ip ?_
  | with_reducible refine lo_b0 ?_
  | with_reducible refine eq_i ?_
  | with_reducible refine ne_i ?_
  | with_reducible refine eq_s ?_
  | with_reducible refine ne_s ?_
  | with_reducible refine eq_b ?_
  | with_reducible refine ne_b ?_
  | with_reducible refine is_non ?_
  | with_reducible refine isnot_non ?_
  | with_reducible refine is_b ?_
  | with_reducible refine in_is ?_
  | with_reducible refine notin_is ?_
  | ((with_reducible refine' in_io ?hm ?_); (case hm => walk_at "mem"))
  | ((with_reducible refine' notin_io ?hm ?_); (case hm => walk_at "mem"))
  | ((with_reducible refine' times_a ?hv ?hw ?_); (case hv => omega); (case hw => omega))
  | ((with_reducible refine' times_b ?hv ?hw ?_); (case hv => omega); (case hw => omega))
  | ((with_reducible refine' fdiv_s ?hv ?hw ?_); (case hv => omega); (case hw => omega))
  | ((with_reducible refine' pow_s ?hv ?hw ?hx ?_); (case hv => decide); (case hw => decide); (case hx => decide))
  | ((with_reducible refine' mod_s ?hv ?_); (case hv => omega))
  | ((with_reducible refine' ix_t ?hv ?_); (case hv => exact rfl))
  | ((with_reducible refine' ix_o ?hm ?hv ?_); (case hm => walk_at "mem"); (case hv => exact rfl)))
open PySem PySem.Spec PyProof.Rows L2 DL in
local macro_rules | `(tactic| walk_at "ARP") => `(tactic| first
  | with_reducible refine arp_nil ?_
  | with_reducible refine arp_cons ?_)
open PySem PySem.Spec PyProof.Rows L2 DL in
local macro_rules | `(tactic| walk_at "LU") => `(tactic| first
  | with_reducible refine lu_i ?_)
open PySem PySem.Spec PyProof.Rows L2 DL in
local macro_rules | `(tactic| walk_at "LB") => `(tactic| first
  | with_reducible refine len_l ?_
  | with_reducible refine len_t ?_
  | with_reducible refine len_scr ?_
  | with_reducible refine abs_i ?_
  | with_reducible refine max2_i ?_
  | with_reducible refine min2_i ?_
  | with_reducible refine int_b ?_
  | with_reducible refine sum_is ?_
  | with_reducible refine any_bs ?_
  | with_reducible refine any_m ?_
  | with_reducible refine all_m ?_
  | with_reducible refine sum_m ?_
  | with_reducible refine all_bs ?_
  | with_reducible refine list_l ?_
  | with_reducible refine tup_l ?_
  | with_reducible refine tup_t ?_
  | ((with_reducible refine' isi_d ?hv ?_); (case hv => exact rfl))
  | ((with_reducible refine' isi_any (TyIs.o ?hm) ?hv ?_); (case hm => walk_at "mem"); (case hv => exact rfl))
  | ((with_reducible refine' len_o ?hm ?_); (case hm => walk_at "mem")))
open PySem PySem.Spec PyProof.Rows L2 DL in
local macro_rules | `(tactic| walk_at "LS") => `(tactic| first
  | with_reducible refine sl_l ?_
  | with_reducible refine sl_scr ?_)
open PySem PySem.Spec PyProof.Rows L2 DL in
local macro_rules | `(tactic| walk_at "LSet") => `(tactic| first
  | ((with_reducible refine' set_o ?hm ?hv ?_); (case hm => walk_at "mem"); (case hv => exact rfl)))
open PySem PySem.Spec PyProof.Rows L2 DL in
local macro_rules | `(tactic| walk_at "LM") => `(tactic| first
  | ((with_reducible refine' app_o ?hm ?hv ?_); (case hm => walk_at "mem"); (case hv => first | (simp only [List.length_map, List.length_cons, List.length_nil, List.length_append]; omega) | omega | (simp only [List.length_map, List.length_cons, List.length_nil, List.length_append, List.length_range]; omega))))
open PySem PySem.Spec PyProof.Rows L2 DL in
local macro_rules | `(tactic| walk_at "s1") => `(tactic| first
  | ((with_reducible show AR _ _ _ _ _); walk_at "AR")
  | ((with_reducible show ARS _ _ _ _ _); walk_at "ARS")
  | ((with_reducible show ARA _ _ _ _ _); walk_at "ARA")
  | ((with_reducible show ARG _ _ _ _ _ _); walk_at "ARG")
  | ((with_reducible show LO _ _ _ _ _ _); walk_at "LO")
  | ((with_reducible show LB _ _ _ _ _); walk_at "LB")
  | ((with_reducible show ARGw _ _ _ _ _ _ _); walk_at "ARGw")
  | ((with_reducible show LF _ _ _ _ _); walk_at "LF")
  | ((with_reducible show ART _ _ _ _ _); walk_at "ART")
  | ((with_reducible show ARI _ _ _ _ _); walk_at "ARI")
  | ((with_reducible show ItL _ _ _); walk_at "ItL")
  | ((with_reducible show ARGsw _ _ _ _ _ _ _); walk_at "ARGsw")
  | ((with_reducible show ARGs _ _ _ _ _ _); walk_at "ARGs")
  | ((with_reducible show ARO _ _ _ _ _); walk_at "ARO")
  | ((with_reducible show ARP _ _ _ _ _); walk_at "ARP")
  | ((with_reducible show LU _ _ _ _ _); walk_at "LU")
  | ((with_reducible show LS _ _ _ _ _ _ _); walk_at "LS")
  | ((with_reducible show LSet _ _ _ _ _ _ _); walk_at "LSet")
  | ((with_reducible show LM _ _ _ _ _ _); walk_at "LM")
  | refine ⟨_, rfl, ⟨by omega, by omega⟩, ?_⟩
  | (refine ⟨_, _, _, DL.TyIs.d _, rfl, rfl, ?_⟩)
  | with_reducible refine ex_ii ?_
  | ((with_reducible refine' And.intro (tys_o ?hv) ?_); (case hv => walk_at "mem"))
  | with_reducible refine And.intro tys_s ?_
  | with_reducible refine And.intro tys_l ?_
  | ((with_reducible refine' And.intro ?hv ?_); (case hv => exact rfl))
  | refine ⟨_, rfl, ?_⟩
  | with_reducible refine ex_zip ?_
  | with_reducible refine ex_zipX ?_
  | with_reducible refine ex_ds0 ?_
  | with_reducible refine ex_ds1 ?_
  | with_reducible refine ex_ds2 ?_
  | with_reducible refine ex_ds3 ?_
  | with_reducible refine ex_ds4 ?_
  | ((with_reducible refine' ex_dsn ?hv ?_); (case hv => exact rfl); dsimp only [List.map, unS])
  | ((with_reducible refine' And.intro ?hv ?_); (case hv => (simp only [List.length_cons, List.length_nil, List.length_map]; done)))
  | ((with_reducible refine' And.intro ?hv ?_); (case hv => (simp only [List.length_cons, List.length_nil, List.length_map]; omega)))
  | rw [mset_mset]
  | rw [mset_swap (by first | assumption | exact Ne.symm (by assumption))]
  | rw [mset_swap2 (by first | assumption | exact Ne.symm (by assumption)) (by first | assumption | exact Ne.symm (by assumption))]
  | with_reducible refine L2.iteF ?_
  | ((with_reducible refine' iteFd ?hv ?_); (case hv => decide +kernel))
  | ((with_reducible refine' iteTd ?hv ?_); (case hv => decide +kernel))
  | with_reducible refine L2.iteT ?_
  | dsimp only)
open PySem PySem.Spec PyProof.Rows L2 DL in
local macro_rules | `(tactic| walk_at "go") => `(tactic| repeat walk_at "s1")
open PySem PySem.Spec PyProof.Rows L2 DL in
local macro_rules | `(tactic| walk_at "if") => `(tactic| ((first | with_reducible refine iteD (fun hc => ?_) (fun hc => ?_) | with_reducible refine iteND (fun hc => ?_) (fun hc => ?_) | with_reducible refine iteNB (fun hc => ?_) (fun hc => ?_) | with_reducible refine iteB (fun hc => ?_) (fun hc => ?_)) <;> walk_at "go"))
open PySem PySem.Spec PyProof.Rows L2 DL in
local macro_rules | `(tactic| walk_at "len") => `(tactic| first | omega | ((try simp only [List.length_map, List.length_append, List.length_cons, List.length_nil, List.length_range, List.length_reverse, List.length_take, List.length_drop, List.length_replicate]); omega) | ((try simp only [List.length_map, List.length_append, List.length_cons, List.length_nil, List.length_range, List.length_reverse, List.length_take, List.length_drop, List.length_replicate] at *); omega))
open PySem PySem.Spec PyProof.Rows L2 DL in
local macro_rules | `(tactic| walk_at "s2") => `(tactic| first
  | walk_at "s1"
  | ((with_reducible refine' ex_fld ?hm ?hc ?hn ?hl ?_); (case hm => walk_at "mem"); (case hc => assumption); (case hn => assumption); (case hl => walk_at "lk"))
  | ((with_reducible refine' ex_put ?hm ?hc ?hn ?hl ?hp ?_); (case hm => walk_at "mem"); (case hc => assumption); (case hn => assumption); (case hp => walk_at "put"); (case hl => simp only [List.length_cons, List.length_nil]; omega))
  | ((with_reducible refine' ex_met ?hm ?hl ?_); (case hm => walk_at "mem"); (case hl => walk_at "lk"))
  | ((with_reducible refine' plus_m ?hl ?_); (case hl => walk_at "len"))
  | ((with_reducible refine' plus_m1 ?hl ?_); (case hl => walk_at "len"))
  | ((with_reducible refine' plus_l ?hl ?_); (case hl => walk_at "len"))
  | ((with_reducible refine' ix_set ?h1 ?_); (case h1 => first | assumption | walk_at "len"))
  | ((with_reducible refine' ix_n ?h1 ?_); (case h1 => first | assumption | walk_at "len"); intro x hx)
  | ((with_reducible refine' ix_pk ?h0 ?h1 ?_); (case h0 => omega); (case h1 => walk_at "len"); intro x hx)
  | ((with_reducible refine' ix_lit2 ?hv ?h0 ?h1 ?_); (case hv => exact rfl); (case h0 => omega); (case h1 => walk_at "len"); intro x hx; simp only [List.map_cons, List.map_nil, DL.unI, List.mem_cons, List.not_mem_nil, or_false] at hx)
  | ((with_reducible refine' plus_s ?hl ?_); (case hl => decide)))
open PySem PySem.Spec PyProof.Rows L2 DL in
local macro_rules | `(tactic| walk_at "g2") => `(tactic| repeat walk_at "s2")
open PySem PySem.Spec PyProof.Rows L2 DL in
local macro_rules | `(tactic| walk_at "g3") => `(tactic| repeat (first | walk_at "s2" | ((with_reducible refine' And.intro ?hv ?_); (case hv => omega))))

namespace Y
open PySem PySem.Spec PyProof.Rows L2 DL
def topS (i : Nat) : Stmt := PySem.Challenge.pw_choosewright_k02_things_that_are_none.main.body.getD i (.Pass ⟨0, 0, 0, 0⟩)
abbrev s_BadThing___init__ : Stmt := inClass (topS 2) 0
abbrev N_BadThing___init__ : List Str := ["self", "place"]
theorem sc_BadThing___init__ : FnScope N_BadThing___init__ ["self", "place"] (defScope s_BadThing___init__) := ⟨rfl, rfl, rfl, by decide +kernel, rfl, by decide +kernel, by decide +kernel⟩
abbrev s_BadRule___init__ : Stmt := inClass (topS 3) 0
abbrev N_BadRule___init__ : List Str := ["self", "place"]
theorem sc_BadRule___init__ : FnScope N_BadRule___init__ ["self", "place"] (defScope s_BadRule___init__) := ⟨rfl, rfl, rfl, by decide +kernel, rfl, by decide +kernel, by decide +kernel⟩
abbrev s_is_number : Stmt := topS 14
abbrev N_is_number : List Str := ["number"]
theorem sc_is_number : FnScope N_is_number ["number"] (defScope s_is_number) := ⟨rfl, rfl, rfl, by decide +kernel, rfl, by decide +kernel, by decide +kernel⟩
abbrev s_are_numbers : Stmt := topS 15
abbrev N_are_numbers : List Str := ["numbers", "number"]
theorem sc_are_numbers : FnScope N_are_numbers ["numbers"] (defScope s_are_numbers) := ⟨rfl, rfl, rfl, by decide +kernel, rfl, by decide +kernel, by decide +kernel⟩
abbrev s_is_tuple_of : Stmt := topS 16
abbrev N_is_tuple_of : List Str := ["part", "size"]
theorem sc_is_tuple_of : FnScope N_is_tuple_of ["part", "size"] (defScope s_is_tuple_of) := ⟨rfl, rfl, rfl, by decide +kernel, rfl, by decide +kernel, by decide +kernel⟩
abbrev s_is_name : Stmt := topS 17
abbrev N_is_name : List Str := ["name", "letter"]
theorem sc_is_name : FnScope N_is_name ["name"] (defScope s_is_name) := ⟨rfl, rfl, rfl, by decide +kernel, rfl, by decide +kernel, by decide +kernel⟩
abbrev s_are_values : Stmt := topS 18
abbrev N_are_values : List Str := ["values", "k"]
theorem sc_are_values : FnScope N_are_values ["values"] (defScope s_are_values) := ⟨rfl, rfl, rfl, by decide +kernel, rfl, by decide +kernel, by decide +kernel⟩
abbrev s_is_thing : Stmt := topS 19
abbrev N_is_thing : List Str := ["thing"]
theorem sc_is_thing : FnScope N_is_thing ["thing"] (defScope s_is_thing) := ⟨rfl, rfl, rfl, by decide +kernel, rfl, by decide +kernel, by decide +kernel⟩
abbrev s_is_rule : Stmt := topS 29
abbrev N_is_rule : List Str := ["rule", "many", "word"]
theorem sc_is_rule : FnScope N_is_rule ["rule", "many"] (defScope s_is_rule) := ⟨rfl, rfl, rfl, by decide +kernel, rfl, by decide +kernel, by decide +kernel⟩
abbrev s_own_copy : Stmt := topS 30
abbrev N_own_copy : List Str := ["part", "one"]
theorem sc_own_copy : FnScope N_own_copy ["part"] (defScope s_own_copy) := ⟨rfl, rfl, rfl, by decide +kernel, rfl, by decide +kernel, by decide +kernel⟩
abbrev s_Choosing___init__ : Stmt := inClass (topS 31) 0
abbrev N_Choosing___init__ : List Str := ["self", "things", "rules", "names", "place", "thing", "rule"]
theorem sc_Choosing___init__ : FnScope N_Choosing___init__ ["self", "things", "rules"] (defScope s_Choosing___init__) := ⟨rfl, rfl, rfl, by decide +kernel, rfl, by decide +kernel, by decide +kernel⟩
abbrev s__law_cell : Stmt := topS 33
abbrev N__law_cell : List Str := ["_law_script", "_law_k"]
theorem sc__law_cell : FnScope N__law_cell ["_law_script", "_law_k"] (defScope s__law_cell) := ⟨rfl, rfl, rfl, by decide +kernel, rfl, by decide +kernel, by decide +kernel⟩
abbrev s__law_digits : Stmt := topS 34
abbrev N__law_digits : List Str := ["_law_cell_here", "_law_turn"]
theorem sc__law_digits : FnScope N__law_digits ["_law_cell_here", "_law_turn"] (defScope s__law_digits) := ⟨rfl, rfl, rfl, by decide +kernel, rfl, by decide +kernel, by decide +kernel⟩
abbrev s__law_pick : Stmt := topS 35
abbrev N__law_pick : List Str := ["_law_d", "_law_many", "_law_number", "_law_once"]
theorem sc__law_pick : FnScope N__law_pick ["_law_d", "_law_many"] (defScope s__law_pick) := ⟨rfl, rfl, rfl, by decide +kernel, rfl, by decide +kernel, by decide +kernel⟩
abbrev s__law_names : Stmt := topS 36
abbrev N__law_names : List Str := ["_law_number", "_law_many", "_law_letters", "_law_some", "_law_k", "_law_first", "_law_tail"]
theorem sc__law_names : FnScope N__law_names ["_law_number", "_law_many"] (defScope s__law_names) := ⟨rfl, rfl, rfl, by decide +kernel, rfl, by decide +kernel, by decide +kernel⟩
abbrev s__law_values : Stmt := topS 37
abbrev N__law_values : List Str := ["_law_d", "_law_size", "_law_wide", "_law_value", "_law_some", "_law_k"]
theorem sc__law_values : FnScope N__law_values ["_law_d"] (defScope s__law_values) := ⟨rfl, rfl, rfl, by decide +kernel, rfl, by decide +kernel, by decide +kernel⟩
abbrev s__law_things : Stmt := topS 38
abbrev N__law_things : List Str := ["_law_d", "_law_number", "_law_many", "_law_name"]
theorem sc__law_things : FnScope N__law_things ["_law_d", "_law_number"] (defScope s__law_things) := ⟨rfl, rfl, rfl, by decide +kernel, rfl, by decide +kernel, by decide +kernel⟩
abbrev s__law_copy : Stmt := topS 39
abbrev N__law_copy : List Str := ["_law_part", "_law_one"]
theorem sc__law_copy : FnScope N__law_copy ["_law_part"] (defScope s__law_copy) := ⟨rfl, rfl, rfl, by decide +kernel, rfl, by decide +kernel, by decide +kernel⟩
abbrev s__law_refused : Stmt := topS 40
abbrev N__law_refused : List Str := ["_law_things_here", "_law_rules", "_law_caught", "error", "_law_kinds"]
theorem sc__law_refused : FnScope N__law_refused ["_law_things_here", "_law_rules"] (defScope s__law_refused) := ⟨rfl, rfl, rfl, by decide +kernel, rfl, by decide +kernel, by decide +kernel⟩
abbrev s__law_spoilt : Stmt := topS 41
abbrev N__law_spoilt : List Str := ["_law_d", "_law_things_here", "_law_at", "_law_name", "_law_values_here", "_law_low", "_law_some"]
theorem sc__law_spoilt : FnScope N__law_spoilt ["_law_d", "_law_things_here", "_law_at"] (defScope s__law_spoilt) := ⟨rfl, rfl, rfl, by decide +kernel, rfl, by decide +kernel, by decide +kernel⟩
abbrev s_law : Stmt := topS 42
abbrev N_law : List Str := ["_law_script", "_law_k", "_law_d", "_law_things_here", "_law_rules", "_law_spoilt_here", "_law_first", "_law_turn", "_law_at", "_law_double"]
theorem sc_law : FnScope N_law ["_law_script"] (defScope s_law) := ⟨rfl, rfl, rfl, by decide +kernel, rfl, by decide +kernel, by decide +kernel⟩
structure Facts (K : PySem.W.Frag) (mg : Str → Option Value) : Prop where
  g_Choosing : mg "Choosing" = some (.ref (clsOf mg "Choosing"))
  cl_Choosing : Cls K (clsOf mg "Choosing")
  na_Choosing_rules : NoAttr K (clsOf mg "Choosing") "rules"
  na_Choosing_things : NoAttr K (clsOf mg "Choosing") "things"
  g_BadRow : mg "BadRow" = some (.ref (clsOf mg "BadRow"))
  g_BadRule : mg "BadRule" = some (.ref (clsOf mg "BadRule"))
  g_BadThing : mg "BadThing" = some (.ref (clsOf mg "BadThing"))
  g_ChoiceError : mg "ChoiceError" = some (.ref (clsOf mg "ChoiceError"))
  g_HasAnswer : mg "HasAnswer" = some (.ref (clsOf mg "HasAnswer"))
  g_NoChoice : mg "NoChoice" = some (.ref (clsOf mg "NoChoice"))
  g_NoValue : mg "NoValue" = some (.ref (clsOf mg "NoValue"))
  g_NotStuck : mg "NotStuck" = some (.ref (clsOf mg "NotStuck"))
  g_Stuck : mg "Stuck" = some (.ref (clsOf mg "Stuck"))
  bx_ChoiceError : BaseX K mg "ChoiceError"
  tx_BadRule : TopX K (clsOf mg "BadRule") "BadRule.__init__" "place" s_BadRule___init__
  ec_BadRule : L2.ExcC K (clsOf mg "BadRule")
  em_BadRule_ChoiceError : PySem.W.exmOne K (.ref (clsOf mg "BadRule")) (.ref (clsOf mg "ChoiceError")) = some true
  ki_BadRule_BadThing : PySem.W.kitOne K (.ref (clsOf mg "BadRule")) (.ref (clsOf mg "BadThing")) = some false
  ki_BadRule_BadRule : PySem.W.kitOne K (.ref (clsOf mg "BadRule")) (.ref (clsOf mg "BadRule")) = some true
  ki_BadRule_BadRow : PySem.W.kitOne K (.ref (clsOf mg "BadRule")) (.ref (clsOf mg "BadRow")) = some false
  ki_BadRule_HasAnswer : PySem.W.kitOne K (.ref (clsOf mg "BadRule")) (.ref (clsOf mg "HasAnswer")) = some false
  ki_BadRule_NoChoice : PySem.W.kitOne K (.ref (clsOf mg "BadRule")) (.ref (clsOf mg "NoChoice")) = some false
  ki_BadRule_NoValue : PySem.W.kitOne K (.ref (clsOf mg "BadRule")) (.ref (clsOf mg "NoValue")) = some false
  ki_BadRule_NotStuck : PySem.W.kitOne K (.ref (clsOf mg "BadRule")) (.ref (clsOf mg "NotStuck")) = some false
  ki_BadRule_Stuck : PySem.W.kitOne K (.ref (clsOf mg "BadRule")) (.ref (clsOf mg "Stuck")) = some false
  kb_BadRule_ValueError : PySem.W.kitOne K (.ref (clsOf mg "BadRule")) (.type "ValueError") = some true
  tx_BadThing : TopX K (clsOf mg "BadThing") "BadThing.__init__" "place" s_BadThing___init__
  ec_BadThing : L2.ExcC K (clsOf mg "BadThing")
  em_BadThing_ChoiceError : PySem.W.exmOne K (.ref (clsOf mg "BadThing")) (.ref (clsOf mg "ChoiceError")) = some true
  ki_BadThing_BadThing : PySem.W.kitOne K (.ref (clsOf mg "BadThing")) (.ref (clsOf mg "BadThing")) = some true
  ki_BadThing_BadRule : PySem.W.kitOne K (.ref (clsOf mg "BadThing")) (.ref (clsOf mg "BadRule")) = some false
  ki_BadThing_BadRow : PySem.W.kitOne K (.ref (clsOf mg "BadThing")) (.ref (clsOf mg "BadRow")) = some false
  ki_BadThing_HasAnswer : PySem.W.kitOne K (.ref (clsOf mg "BadThing")) (.ref (clsOf mg "HasAnswer")) = some false
  ki_BadThing_NoChoice : PySem.W.kitOne K (.ref (clsOf mg "BadThing")) (.ref (clsOf mg "NoChoice")) = some false
  ki_BadThing_NoValue : PySem.W.kitOne K (.ref (clsOf mg "BadThing")) (.ref (clsOf mg "NoValue")) = some false
  ki_BadThing_NotStuck : PySem.W.kitOne K (.ref (clsOf mg "BadThing")) (.ref (clsOf mg "NotStuck")) = some false
  ki_BadThing_Stuck : PySem.W.kitOne K (.ref (clsOf mg "BadThing")) (.ref (clsOf mg "Stuck")) = some false
  kb_BadThing_ValueError : PySem.W.kitOne K (.ref (clsOf mg "BadThing")) (.type "ValueError") = some true
  t_is_number : Top K mg "is_number" s_is_number ["number"]
  t_are_numbers : Top K mg "are_numbers" s_are_numbers ["numbers"]
  t_is_tuple_of : Top K mg "is_tuple_of" s_is_tuple_of ["part", "size"]
  t_is_name : Top K mg "is_name" s_is_name ["name"]
  t_are_values : Top K mg "are_values" s_are_values ["values"]
  t_is_thing : Top K mg "is_thing" s_is_thing ["thing"]
  t_is_rule : Top K mg "is_rule" s_is_rule ["rule", "many"]
  t_own_copy : Top K mg "own_copy" s_own_copy ["part"]
  t_Choosing___init__ : TopI K (clsOf mg "Choosing") "Choosing.__init__" s_Choosing___init__ ["self", "things", "rules"]
  t__law_cell : Top K mg "_law_cell" s__law_cell ["_law_script", "_law_k"]
  t__law_digits : Top K mg "_law_digits" s__law_digits ["_law_cell_here", "_law_turn"]
  t__law_pick : Top K mg "_law_pick" s__law_pick ["_law_d", "_law_many"]
  t__law_names : Top K mg "_law_names" s__law_names ["_law_number", "_law_many"]
  t__law_values : Top K mg "_law_values" s__law_values ["_law_d"]
  t__law_things : Top K mg "_law_things" s__law_things ["_law_d", "_law_number"]
  t__law_copy : Top K mg "_law_copy" s__law_copy ["_law_part"]
  t__law_refused : Top K mg "_law_refused" s__law_refused ["_law_things_here", "_law_rules"]
  t__law_spoilt : Top K mg "_law_spoilt" s__law_spoilt ["_law_d", "_law_things_here", "_law_at"]
  t_law : Top K mg "law" s_law ["_law_script"]
  m_ValueError : mg "ValueError" = none
  m_abs : mg "abs" = none
  m_all : mg "all" = none
  m_bool : mg "bool" = none
  m_enumerate : mg "enumerate" = none
  m_int : mg "int" = none
  m_isinstance : mg "isinstance" = none
  m_len : mg "len" = none
  m_list : mg "list" = none
  m_max : mg "max" = none
  m_min : mg "min" = none
  m_range : mg "range" = none
  m_str : mg "str" = none
  m_tuple : mg "tuple" = none
  v_LETTERS : ∃ t, mg "LETTERS" = some (Value.str "abcdefghijklmnopqrstuvwxyz" t)
  v_MOST_NAME : ∃ t, mg "MOST_NAME" = some (Value.int 8 t)
/-- what is drawn from: a number, a counter, whether it is a great one, the cell -/
def DgD (c : C) (z : Int) : Prop := ∃ (x v y : Int) (b : Bool), 0 ≤ x ∧ 0 ≤ v ∧ v ≤ z ∧ c = .lst [.d (.int x), .d (.int v), .d (.bool b), .d (.int y)]
theorem dd_to {c : C} {z z' : Int} (h : DgD c z) (e : z ≤ z') : DgD c z' := (by
  obtain ⟨x, v, y, b, h1, h2, h3, h4⟩ := h
  exact ⟨x, v, y, b, h1, h2, by omega, h4⟩)
section
variable {P : Program} {w : World} {K : PySem.W.Frag} {mg : Str → Option Value} {base : Heap}
theorem getD_of {α : Type} {xs : List α} {i : Nat} {d : α} (h : i < xs.length) : xs[i]? = some (xs.getD i d) := (by
  rw [List.getElem?_eq_getElem h, List.getD_eq_getElem?_getD, List.getElem?_eq_getElem h]; rfl)
def f__law_cell : FS := fun xs m Z => ∃ (ns : List Int) (k : Int), xs = [.scr ns, .d (.int k)] ∧ 0 ≤ k ∧ ∀ r : Int, Z (.d (.int r)) m
theorem c__law_cell (B : Facts K mg) : Cal P w K mg base 1 2 "_law_cell" f__law_cell := (by
  refine cal_dl B.t__law_cell sc__law_cell (fun f cdv A outer s H E hr => ?_)
  have hu64 := hr.units
  have hu65 : (A.deeper (envOfC "_law_cell" (defScope s__law_cell) s.heap.objs.size f cdv)).units + 65 < cLine := by have := hr.un; omega
  have hu1 : (A.deeper (envOfC "_law_cell" (defScope s__law_cell) s.heap.objs.size f cdv)).units + 1 < cLine := by have := hr.un; omega
  refine ⟨_, (pss_cons (ps_if (pt_cmpR op_lt (pv 1) (pe_callB (cr_lenK (K := K) rfl) (by rfl) B.m_len (by decide +kernel) (pa_cons (pv 0) pa_nil)) (nomark _)) (pss_one (ps_ret (pe_ix (ix_allK (K := K) rfl) (pv 0) (pv 1) (fun _ _ => rfl)))) pss_nil) (pss_one (ps_ret pe_int))), fun xs m Z h => ?_⟩
  clear hr hu64 hu65 hu1
  change ARS K _ (List.map some xs ++ List.replicate (2 - xs.length) none) m _
  -- slots: 0=_law_script 1=_law_k
  obtain ⟨ns, k, rfl, h0, q⟩ := h
  ((with_reducible refine ars_seq ?_); (with_reducible refine ars_if ?_); (with_reducible refine art_test ?_); (with_reducible refine ar_op ?_); (((with_reducible refine' ar_var ?hvz1 ?_); (case hvz1 => exact rfl))); (with_reducible refine ar_cb ?_); (with_reducible refine ara_cons ?_); (((with_reducible refine' ar_var ?hvz2 ?_); (case hvz2 => exact rfl))); (with_reducible refine ara_nil ?_); (with_reducible refine len_scr ?_); (with_reducible refine lo_b0 ?_); (refine ⟨_, rfl, ?_⟩); (dsimp only))
  refine iteD (fun hc => ?_) (fun hc => ?_)
  · obtain ⟨n, h1, _⟩ := at_int h0 hc
    ((with_reducible refine ars_ret ?_); (with_reducible refine ar_op ?_); (((with_reducible refine' ar_var ?hvz3 ?_); (case hvz3 => exact rfl))); (((with_reducible refine' ar_var ?hvz4 ?_); (case hvz4 => exact rfl))); (dsimp only))
    exact ix_scr h1 (rt_id (q _))
  · ((with_reducible refine ars_next ?_); (with_reducible refine ars_ret ?_); (with_reducible refine ar_int ?_); (dsimp only))
    exact rt_id (q _))
def f__law_digits : FS := fun xs m Z => ∃ (c t : Int), xs = [.d (.int c), .d (.int t)] ∧ 0 ≤ t ∧ ∀ p cc, m p = none → DgD cc t → Z (.r p) (mset m p cc)
theorem c__law_digits (B : Facts K mg) : Cal P w K mg base 1 2 "_law_digits" f__law_digits := (by
  refine cal_dl B.t__law_digits sc__law_digits (fun f cdv A outer s H E hr => ?_)
  have hu64 := hr.units
  have hu65 : (A.deeper (envOfC "_law_digits" (defScope s__law_digits) s.heap.objs.size f cdv)).units + 65 < cLine := by have := hr.un; omega
  have hu1 : (A.deeper (envOfC "_law_digits" (defScope s__law_digits) s.heap.objs.size f cdv)).units + 1 < cLine := by have := hr.un; omega
  refine ⟨_, (pss_one (ps_ret (pe_own (pe_lst (pa_cons (pe_callB cr_abs (by rfl) B.m_abs (by decide +kernel) (pa_cons (pv 0) pa_nil)) (pa_cons (pv 1) (pa_cons (pe_cmpR op_ge (pe_callB cr_abs (by rfl) B.m_abs (by decide +kernel) (pa_cons (pv 0) pa_nil)) (pe_op op_pow pe_int pe_int) (nomark _)) (pa_cons (pv 0) pa_nil)))))))), fun xs m Z h => ?_⟩
  clear hr hu64 hu65 hu1
  change ARS K _ (List.map some xs ++ List.replicate (2 - xs.length) none) m _
  -- slots: 0=_law_cell_here 1=_law_turn
  obtain ⟨c, t, rfl, h0, q⟩ := h
  have ha : 0 ≤ (if c < 0 then -c else c) := by split <;> omega
  ((with_reducible refine ars_ret ?_); (with_reducible refine ar_lstO ?_); (with_reducible refine ara_cons ?_); (with_reducible refine ar_cb ?_); (with_reducible refine ara_cons ?_); (((with_reducible refine' ar_var ?hvz5 ?_); (case hvz5 => exact rfl))); (with_reducible refine ara_nil ?_); (with_reducible refine abs_i ?_); (with_reducible refine ara_cons ?_); (((with_reducible refine' ar_var ?hvz6 ?_); (case hvz6 => exact rfl))); (with_reducible refine ara_cons ?_); (with_reducible refine ar_op ?_); (with_reducible refine ar_cb ?_); (with_reducible refine ara_cons ?_); (((with_reducible refine' ar_var ?hvz7 ?_); (case hvz7 => exact rfl))); (with_reducible refine ara_nil ?_); (with_reducible refine abs_i ?_); (with_reducible refine ar_op ?_); (with_reducible refine ar_int ?_); (with_reducible refine ar_int ?_); (((with_reducible refine' pow_s ?hvz10 ?hwz8 ?hxz9 ?_); (case hvz10 => decide); (case hwz8 => decide); (case hxz9 => decide))); (with_reducible refine lo_b0 ?_); (with_reducible refine ara_cons ?_); (((with_reducible refine' ar_var ?hvz11 ?_); (case hvz11 => exact rfl))); (with_reducible refine ara_nil ?_); (walk_at "s1"); (dsimp only))
  intro p hp
  exact rt_id (q p _ hp ⟨_, _, _, _, ha, h0, Int.le_refl _, rfl⟩))
def f__law_pick : FS := fun xs m Z => ∃ (a : Addr) (c : C) (z n : Int), xs = [.r a, .d (.int n)] ∧ m a = some c ∧ DgD c z ∧ z < 1000000000 ∧ 0 < n ∧ n < 3000000 ∧ ∀ (r : Int) (c' : C), 0 ≤ r → r < n → DgD c' (z + 1) → Z (.d (.int r)) (mset m a c')
set_option maxHeartbeats 1000000 in
theorem c__law_pick (B : Facts K mg) : Cal P w K mg base 1 2 "_law_pick" f__law_pick := (by
  refine cal_dl B.t__law_pick sc__law_pick (fun f cdv A outer s H E hr => ?_)
  have hu64 := hr.units
  have hu65 : (A.deeper (envOfC "_law_pick" (defScope s__law_pick) s.heap.objs.size f cdv)).units + 65 < cLine := by have := hr.un; omega
  have hu1 : (A.deeper (envOfC "_law_pick" (defScope s__law_pick) s.heap.objs.size f cdv)).units + 1 < cLine := by have := hr.un; omega
  refine ⟨_, (pss_cons (ps_asg (pe_op (op_plusK (K := K) rfl) (pe_ix (ix_allK (K := K) rfl) (pv 0) pe_int (fun _ _ => rfl)) pe_int) (pg_sub (pv 0) pe_int set_list)) (pss_cons (ps_if ((pw_and (pt_val (pe_ix (ix_allK (K := K) rfl) (pv 0) pe_int (fun _ _ => rfl))) (pw_and1 (pt_cmpR op_gt (pe_ix (ix_allK (K := K) rfl) (pv 0) pe_int (fun _ _ => rfl)) pe_int (nomark _))))).pt (pss_cons (ps_set (i := 2) sc__law_pick.nd rfl (by first | exact Or.inl rfl | exact Or.inr rfl) (pe_op op_mod (pe_ix (ix_allK (K := K) rfl) (pv 0) pe_int (fun _ _ => rfl)) (pv 1))) (pss_cons (ps_asg (pe_op (op_fdivsK (K := K) rfl) (pe_ix (ix_allK (K := K) rfl) (pv 0) pe_int (fun _ _ => rfl)) (pv 1)) (pg_sub (pv 0) pe_int set_list)) (pss_one (ps_ret (pv 2))))) pss_nil) (pss_cons (ps_set (i := 3) sc__law_pick.nd rfl (by first | exact Or.inl rfl | exact Or.inr rfl) (pe_op op_mod (pe_op (op_timesK (K := K) rfl) (pe_op (op_plusK (K := K) rfl) (pe_op (op_plusK (K := K) rfl) (pe_op op_mod (pe_ix (ix_allK (K := K) rfl) (pv 0) pe_int (fun _ _ => rfl)) pe_int) (pe_op (op_timesK (K := K) rfl) pe_int (pe_ix (ix_allK (K := K) rfl) (pv 0) pe_int (fun _ _ => rfl)))) pe_int) pe_int) pe_int)) (pss_one (ps_ret (pe_op op_mod (pe_op op_mod (pe_op (op_timesK (K := K) rfl) (pv 3) (pe_op (op_plusK (K := K) rfl) (pe_op (op_plusK (K := K) rfl) (pe_op op_mod (pv 3) pe_int) (pe_ix (ix_allK (K := K) rfl) (pv 0) pe_int (fun _ _ => rfl))) pe_int)) pe_int) (pv 1))))))), fun xs m Z h => ?_⟩
  clear hr hu64 hu65 hu1
  change ARS K _ (List.map some xs ++ List.replicate (4 - xs.length) none) m _
  -- slots: 0=_law_d 1=_law_many 2=_law_number 3=_law_once
  obtain ⟨a, c, z, n, rfl, hm, ⟨x, v, y, b, hx, hv, hvz, rfl⟩, hz, h0, h1, q⟩ := h
  ((with_reducible refine ars_seq ?_); (with_reducible refine ars_asg ?_); (with_reducible refine ar_op ?_); (with_reducible refine ar_op ?_); (((with_reducible refine' ar_var ?hvz12 ?_); (case hvz12 => exact rfl))); (with_reducible refine ar_int ?_); (((with_reducible refine' ix_o ?hmz13 ?hvz14 ?_); (case hmz13 => walk_at "mem"); (case hvz14 => exact rfl))); (with_reducible refine ar_int ?_); (with_reducible refine plus_i ?_); (with_reducible refine arg_sub ?_); (((with_reducible refine' ar_var ?hvz15 ?_); (case hvz15 => exact rfl))); (with_reducible refine ar_int ?_); (((with_reducible refine' set_o ?hmz16 ?hvz17 ?_); (case hmz16 => walk_at "mem"); (case hvz17 => exact rfl))); (with_reducible refine ars_seq ?_); (with_reducible refine ars_if ?_); (with_reducible refine art_and ?_); (with_reducible refine art_tb ?_); (with_reducible refine ar_op ?_); (((with_reducible refine' ar_var ?hvz18 ?_); (case hvz18 => exact rfl))); (with_reducible refine ar_int ?_); (((with_reducible refine' ix_o ?hmz19 ?hvz20 ?_); (case hmz19 => walk_at "mem"); (case hvz20 => exact rfl))); (refine ⟨_, rfl, ?_⟩); (dsimp only))
  have fin : ∀ (r : Int) (x' : Int), 0 ≤ x' → 0 ≤ r → r < n → RT Z (.d (.int r)) (mset m a (.lst [.d (.int x'), .d (.int (v + 1)), .d (.bool b), .d (.int y)])) := fun r x' h1 h2 h3 => rt_id (q r _ h2 h3 ⟨x', v + 1, y, b, h1, by omega, by omega, rfl⟩)
  cases b with
  | false =>
    ((with_reducible refine L2.iteF ?_); (with_reducible refine L2.iteF ?_); (with_reducible refine ars_next ?_); (with_reducible refine ars_seq ?_); (with_reducible refine ars_asg ?_); (with_reducible refine ar_op ?_); (with_reducible refine ar_op ?_); (with_reducible refine ar_op ?_); (with_reducible refine ar_op ?_); (with_reducible refine ar_op ?_); (with_reducible refine ar_op ?_); (((with_reducible refine' ar_var ?hvz21 ?_); (case hvz21 => exact rfl))); (with_reducible refine ar_int ?_); (((with_reducible refine' ix_o ?hmz22 ?hvz23 ?_); (case hmz22 => walk_at "mem"); (case hvz23 => exact rfl))); (with_reducible refine ar_int ?_); (((with_reducible refine' mod_s ?hvz24 ?_); (case hvz24 => omega))); (with_reducible refine ar_op ?_); (with_reducible refine ar_int ?_); (with_reducible refine ar_op ?_); (((with_reducible refine' ar_var ?hvz25 ?_); (case hvz25 => exact rfl))); (with_reducible refine ar_int ?_); (((with_reducible refine' ix_o ?hmz26 ?hvz27 ?_); (case hmz26 => walk_at "mem"); (case hvz27 => exact rfl))); (((with_reducible refine' times_a ?hvz29 ?hwz28 ?_); (case hvz29 => omega); (case hwz28 => omega))); (with_reducible refine plus_i ?_); (with_reducible refine ar_int ?_); (with_reducible refine plus_i ?_); (with_reducible refine ar_int ?_); (((with_reducible refine' times_a ?hvz31 ?hwz30 ?_); (case hvz31 => omega); (case hwz30 => omega))); (with_reducible refine ar_int ?_); (((with_reducible refine' mod_s ?hvz32 ?_); (case hvz32 => omega))); (with_reducible refine arg_name ?_); (with_reducible refine ars_ret ?_); (with_reducible refine ar_op ?_); (with_reducible refine ar_op ?_); (with_reducible refine ar_op ?_); (((with_reducible refine' ar_var ?hvz33 ?_); (case hvz33 => exact rfl))); (with_reducible refine ar_op ?_); (with_reducible refine ar_op ?_); (with_reducible refine ar_op ?_); (((with_reducible refine' ar_var ?hvz34 ?_); (case hvz34 => exact rfl))); (with_reducible refine ar_int ?_); (((with_reducible refine' mod_s ?hvz35 ?_); (case hvz35 => omega))); (with_reducible refine ar_op ?_); (((with_reducible refine' ar_var ?hvz36 ?_); (case hvz36 => exact rfl))); (with_reducible refine ar_int ?_); (((with_reducible refine' ix_o ?hmz37 ?hvz38 ?_); (case hmz37 => walk_at "mem"); (case hvz38 => exact rfl))); (with_reducible refine plus_i ?_); (with_reducible refine ar_int ?_); (with_reducible refine plus_i ?_); (((with_reducible refine' times_a ?hvz40 ?hwz39 ?_); (case hvz40 => omega); (case hwz39 => omega))); (with_reducible refine ar_int ?_); (((with_reducible refine' mod_s ?hvz41 ?_); (case hvz41 => omega))); (((with_reducible refine' ar_var ?hvz42 ?_); (case hvz42 => exact rfl))); (((with_reducible refine' mod_s ?hvz43 ?_); (case hvz43 => omega))); (dsimp only))
    exact fin _ _ hx (Int.emod_nonneg _ (by omega)) (Int.emod_lt_of_pos _ h0)
  | true =>
    ((((with_reducible refine' iteTd ?hvz44 ?_); (case hvz44 => decide +kernel))); (with_reducible refine art_test ?_); (with_reducible refine ar_op ?_); (with_reducible refine ar_op ?_); (((with_reducible refine' ar_var ?hvz45 ?_); (case hvz45 => exact rfl))); (with_reducible refine ar_int ?_); (((with_reducible refine' ix_o ?hmz46 ?hvz47 ?_); (case hmz46 => walk_at "mem"); (case hvz47 => exact rfl))); (with_reducible refine ar_int ?_); (with_reducible refine lo_b0 ?_); (refine ⟨_, rfl, ?_⟩))
    refine iteD (fun hc => ?_) (fun hc => ?_)
    · ((with_reducible refine ars_seq ?_); (with_reducible refine ars_asg ?_); (with_reducible refine ar_op ?_); (with_reducible refine ar_op ?_); (((with_reducible refine' ar_var ?hvz48 ?_); (case hvz48 => exact rfl))); (with_reducible refine ar_int ?_); (((with_reducible refine' ix_o ?hmz49 ?hvz50 ?_); (case hmz49 => walk_at "mem"); (case hvz50 => exact rfl))); (((with_reducible refine' ar_var ?hvz51 ?_); (case hvz51 => exact rfl))); (((with_reducible refine' mod_s ?hvz52 ?_); (case hvz52 => omega))); (with_reducible refine arg_name ?_); (with_reducible refine ars_seq ?_); (with_reducible refine ars_asg ?_); (with_reducible refine ar_op ?_); (with_reducible refine ar_op ?_); (((with_reducible refine' ar_var ?hvz53 ?_); (case hvz53 => exact rfl))); (with_reducible refine ar_int ?_); (((with_reducible refine' ix_o ?hmz54 ?hvz55 ?_); (case hmz54 => walk_at "mem"); (case hvz55 => exact rfl))); (((with_reducible refine' ar_var ?hvz56 ?_); (case hvz56 => exact rfl))); (((with_reducible refine' fdiv_s ?hvz58 ?hwz57 ?_); (case hvz58 => omega); (case hwz57 => omega))); (with_reducible refine arg_sub ?_); (((with_reducible refine' ar_var ?hvz59 ?_); (case hvz59 => exact rfl))); (with_reducible refine ar_int ?_); (((with_reducible refine' set_o ?hmz60 ?hvz61 ?_); (case hmz60 => walk_at "mem"); (case hvz61 => exact rfl))); (with_reducible refine ars_ret ?_); (((with_reducible refine' ar_var ?hvz62 ?_); (case hvz62 => exact rfl))); (rw [mset_mset]); (dsimp only))
      exact fin _ _ (Int.ediv_nonneg hx (by omega)) (Int.emod_nonneg _ (by omega)) (Int.emod_lt_of_pos _ h0)
    · ((with_reducible refine ars_next ?_); (with_reducible refine ars_seq ?_); (with_reducible refine ars_asg ?_); (with_reducible refine ar_op ?_); (with_reducible refine ar_op ?_); (with_reducible refine ar_op ?_); (with_reducible refine ar_op ?_); (with_reducible refine ar_op ?_); (with_reducible refine ar_op ?_); (((with_reducible refine' ar_var ?hvz63 ?_); (case hvz63 => exact rfl))); (with_reducible refine ar_int ?_); (((with_reducible refine' ix_o ?hmz64 ?hvz65 ?_); (case hmz64 => walk_at "mem"); (case hvz65 => exact rfl))); (with_reducible refine ar_int ?_); (((with_reducible refine' mod_s ?hvz66 ?_); (case hvz66 => omega))); (with_reducible refine ar_op ?_); (with_reducible refine ar_int ?_); (with_reducible refine ar_op ?_); (((with_reducible refine' ar_var ?hvz67 ?_); (case hvz67 => exact rfl))); (with_reducible refine ar_int ?_); (((with_reducible refine' ix_o ?hmz68 ?hvz69 ?_); (case hmz68 => walk_at "mem"); (case hvz69 => exact rfl))); (((with_reducible refine' times_a ?hvz71 ?hwz70 ?_); (case hvz71 => omega); (case hwz70 => omega))); (with_reducible refine plus_i ?_); (with_reducible refine ar_int ?_); (with_reducible refine plus_i ?_); (with_reducible refine ar_int ?_); (((with_reducible refine' times_a ?hvz73 ?hwz72 ?_); (case hvz73 => omega); (case hwz72 => omega))); (with_reducible refine ar_int ?_); (((with_reducible refine' mod_s ?hvz74 ?_); (case hvz74 => omega))); (with_reducible refine arg_name ?_); (with_reducible refine ars_ret ?_); (with_reducible refine ar_op ?_); (with_reducible refine ar_op ?_); (with_reducible refine ar_op ?_); (((with_reducible refine' ar_var ?hvz75 ?_); (case hvz75 => exact rfl))); (with_reducible refine ar_op ?_); (with_reducible refine ar_op ?_); (with_reducible refine ar_op ?_); (((with_reducible refine' ar_var ?hvz76 ?_); (case hvz76 => exact rfl))); (with_reducible refine ar_int ?_); (((with_reducible refine' mod_s ?hvz77 ?_); (case hvz77 => omega))); (with_reducible refine ar_op ?_); (((with_reducible refine' ar_var ?hvz78 ?_); (case hvz78 => exact rfl))); (with_reducible refine ar_int ?_); (((with_reducible refine' ix_o ?hmz79 ?hvz80 ?_); (case hmz79 => walk_at "mem"); (case hvz80 => exact rfl))); (with_reducible refine plus_i ?_); (with_reducible refine ar_int ?_); (with_reducible refine plus_i ?_); (((with_reducible refine' times_a ?hvz82 ?hwz81 ?_); (case hvz82 => omega); (case hwz81 => omega))); (with_reducible refine ar_int ?_); (((with_reducible refine' mod_s ?hvz83 ?_); (case hvz83 => omega))); (((with_reducible refine' ar_var ?hvz84 ?_); (case hvz84 => exact rfl))); (((with_reducible refine' mod_s ?hvz85 ?_); (case hvz85 => omega))); (dsimp only))
      exact fin _ _ hx (Int.emod_nonneg _ (by omega)) (Int.emod_lt_of_pos _ h0))
theorem use_pick {a : Addr} {c : C} {z n : Int} {m : Mem} {Z : S → Mem → Prop} (hm : m a = some c) (hd : DgD c z) (hz : z < 1000000000) (h0 : 0 < n) (h1 : n < 3000000) (q : ∀ (r : Int) (c' : C), 0 ≤ r → r < n → DgD c' (z + 1) → Z (.d (.int r)) (mset m a c')) : f__law_pick [.r a, .d (.int n)] m Z := ⟨a, c, z, n, rfl, hm, hd, hz, h0, h1, q⟩
local macro_rules | `(tactic| walk_at "s1") => `(tactic| ((with_reducible refine' use_pick ?hm ?hd ?hz ?h0 ?h1 ?_); (case hm => walk_at "mem"); (case hd => assumption); (case hz => omega); (case h0 => first | omega | (simp only [List.length_map, List.length_append, List.length_cons, List.length_nil, List.length_range]; omega)); (case h1 => first | omega | (simp only [List.length_map, List.length_append, List.length_cons, List.length_nil, List.length_range]; omega)); intro r c h0 h1 hd))
def f__law_values : FS := fun xs m Z => ∃ (a : Addr) (c : C) (z : Int), xs = [.r a] ∧ m a = some c ∧ DgD c z ∧ z < 900000000 ∧ ∀ (ns : List Int) (c' : C), 1 ≤ ns.length → ns.length ≤ 16 → ns.Pairwise (· < ·) → DgD c' (z + 20) → Z (.d (dI ns)) (mset m a c')
set_option maxHeartbeats 1000000 in
theorem c__law_values (B : Facts K mg) : Cal P w K mg base 2 1 "_law_values" f__law_values := (by
  refine cal_dl B.t__law_values sc__law_values (fun f cdv A outer s H E hr => ?_)
  have hu64 := hr.units
  have hu65 : (A.deeper (envOfC "_law_values" (defScope s__law_values) s.heap.objs.size f cdv)).units + 65 < cLine := by have := hr.un; omega
  have hu1 : (A.deeper (envOfC "_law_values" (defScope s__law_values) s.heap.objs.size f cdv)).units + 1 < cLine := by have := hr.un; omega
  refine ⟨_, (pss_cons (ps_set (i := 1) sc__law_values.nd rfl (by first | exact Or.inl rfl | exact Or.inr rfl) (pe_ix (ix_allK (K := K) rfl) (pe_lst (pa_cons pe_int (pa_cons pe_int (pa_cons pe_int (pa_cons pe_int (pa_cons pe_int (pa_cons pe_int pa_nil))))))) (pe_fK (K := K) rfl (c__law_pick B) hr (by decide) (by rfl) (pa_cons (pv 0) (pa_cons pe_int pa_nil))) (fun _ _ => rfl))) (pss_cons (ps_set (i := 2) sc__law_values.nd rfl (by first | exact Or.inl rfl | exact Or.inr rfl) (pe_ix (ix_allK (K := K) rfl) (pe_lst (pa_cons pe_int (pa_cons pe_int (pa_cons pe_int (pa_cons pe_int pa_nil))))) (pe_fK (K := K) rfl (c__law_pick B) hr (by decide) (by rfl) (pa_cons (pv 0) (pa_cons pe_int pa_nil))) (fun _ _ => rfl))) (pss_cons (ps_set (i := 3) sc__law_values.nd rfl (by first | exact Or.inl rfl | exact Or.inr rfl) (pe_op (op_plusK (K := K) rfl) (pe_ix (ix_allK (K := K) rfl) (pe_lst (pa_cons (pe_un un_neg pe_int) (pa_cons pe_int (pa_cons pe_int (pa_cons (pe_un un_neg pe_int) (pa_cons pe_int pa_nil)))))) (pe_fK (K := K) rfl (c__law_pick B) hr (by decide) (by rfl) (pa_cons (pv 0) (pa_cons pe_int pa_nil))) (fun _ _ => rfl)) (pe_fK (K := K) rfl (c__law_pick B) hr (by decide) (by rfl) (pa_cons (pv 0) (pa_cons pe_int pa_nil))))) (pss_cons (ps_set (i := 4) sc__law_values.nd rfl (by first | exact Or.inl rfl | exact Or.inr rfl) (pe_own (pe_lst pa_nil))) (pss_cons (ps_for PassesOwn.never rfl (pi_range1 (by rfl) B.m_range (pa_cons (pv 1) pa_nil)) (pg_name (i := 5) sc__law_values.nd rfl (by first | exact Or.inl rfl | exact Or.inr rfl)) (pss_cons (ps_expr (pe_bmK (K := K) rfl PySem.F.plainAttrs_list PySem.F.slot_list_append PySem.F.type_list_append mt_append (pv 4) (pa_cons (pv 3) pa_nil))) (pss_one (ps_set (i := 3) sc__law_values.nd rfl (by first | exact Or.inl rfl | exact Or.inr rfl) (pe_op (op_plusK (K := K) rfl) (pe_op (op_plusK (K := K) rfl) (pv 3) pe_int) (pe_fK (K := K) rfl (c__law_pick B) hr (by decide) (by rfl) (pa_cons (pv 0) (pa_cons (pv 2) pa_nil)))))))) (pss_one (ps_ret (pv 4)))))))), fun xs m Z h => ?_⟩
  clear hr hu64 hu65 hu1
  change ARS K _ (List.map some xs ++ List.replicate (6 - xs.length) none) m _
  -- slots: 0=_law_d 1=_law_size 2=_law_wide 3=_law_value 4=_law_some 5=_law_k
  obtain ⟨a, c, z, rfl, hm, hd, hz, q⟩ := h
  ((with_reducible refine ars_seq ?_); (with_reducible refine ars_asg ?_); (with_reducible refine ar_op ?_); (with_reducible refine ar_lstD ?_); (with_reducible refine ara_cons ?_); (with_reducible refine ar_int ?_); (with_reducible refine ara_cons ?_); (with_reducible refine ar_int ?_); (with_reducible refine ara_cons ?_); (with_reducible refine ar_int ?_); (with_reducible refine ara_cons ?_); (with_reducible refine ar_int ?_); (with_reducible refine ara_cons ?_); (with_reducible refine ar_int ?_); (with_reducible refine ara_cons ?_); (with_reducible refine ar_int ?_); (with_reducible refine ara_nil ?_); (((with_reducible refine' ex_dsn ?hvz86 ?_); (case hvz86 => exact rfl); dsimp only [List.map, unS])); (walk_at "s2"); (with_reducible refine ar_call ?_); (with_reducible refine ara_cons ?_); (((with_reducible refine' ar_var ?hvz87 ?_); (case hvz87 => exact rfl))); (with_reducible refine ara_cons ?_); (with_reducible refine ar_int ?_); (with_reducible refine ara_nil ?_); (((with_reducible refine' lf_in ?hvz88 ?_); (case hvz88 => exact rfl))); (((with_reducible refine' use_pick ?hmz90 ?hdz89 ?hzz93 ?h0z91 ?h1z92 ?_); (case hmz90 => walk_at "mem"); (case hdz89 => assumption); (case hzz93 => omega); (case h0z91 => first | omega | (simp only [List.length_map, List.length_append, List.length_cons, List.length_nil, List.length_range]; omega)); (case h1z92 => first | omega | (simp only [List.length_map, List.length_append, List.length_cons, List.length_nil, List.length_range]; omega)); intro _ _ _ _ _)); (walk_at "s2"); (with_reducible refine arg_name ?_); (with_reducible refine ars_seq ?_); (with_reducible refine ars_asg ?_); (with_reducible refine ar_op ?_); (with_reducible refine ar_lstD ?_); (with_reducible refine ara_cons ?_); (with_reducible refine ar_int ?_); (with_reducible refine ara_cons ?_); (with_reducible refine ar_int ?_); (with_reducible refine ara_cons ?_); (with_reducible refine ar_int ?_); (with_reducible refine ara_cons ?_); (with_reducible refine ar_int ?_); (with_reducible refine ara_nil ?_); (with_reducible refine ex_ds4 ?_); (walk_at "s2"); (with_reducible refine ar_call ?_); (with_reducible refine ara_cons ?_); (((with_reducible refine' ar_var ?hvz94 ?_); (case hvz94 => exact rfl))); (with_reducible refine ara_cons ?_); (with_reducible refine ar_int ?_); (with_reducible refine ara_nil ?_); (((with_reducible refine' lf_in ?hvz95 ?_); (case hvz95 => exact rfl))); (((with_reducible refine' use_pick ?hmz97 ?hdz96 ?hzz100 ?h0z98 ?h1z99 ?_); (case hmz97 => walk_at "mem"); (case hdz96 => assumption); (case hzz100 => omega); (case h0z98 => first | omega | (simp only [List.length_map, List.length_append, List.length_cons, List.length_nil, List.length_range]; omega)); (case h1z99 => first | omega | (simp only [List.length_map, List.length_append, List.length_cons, List.length_nil, List.length_range]; omega)); intro _ _ _ _ _)); (rw [mset_mset]); (dsimp only); (walk_at "s2"); (with_reducible refine arg_name ?_); (with_reducible refine ars_seq ?_); (with_reducible refine ars_asg ?_); (with_reducible refine ar_op ?_); (with_reducible refine ar_op ?_); (with_reducible refine ar_lstD ?_); (with_reducible refine ara_cons ?_); (with_reducible refine ar_un ?_); (with_reducible refine ar_int ?_); (with_reducible refine lu_i ?_); (with_reducible refine ara_cons ?_); (with_reducible refine ar_int ?_); (with_reducible refine ara_cons ?_); (with_reducible refine ar_int ?_); (with_reducible refine ara_cons ?_); (with_reducible refine ar_un ?_); (with_reducible refine ar_int ?_); (with_reducible refine lu_i ?_); (with_reducible refine ara_cons ?_); (with_reducible refine ar_int ?_); (with_reducible refine ara_nil ?_); (((with_reducible refine' ex_dsn ?hvz101 ?_); (case hvz101 => exact rfl); dsimp only [List.map, unS])); (walk_at "s2"); (with_reducible refine ar_call ?_); (with_reducible refine ara_cons ?_); (((with_reducible refine' ar_var ?hvz102 ?_); (case hvz102 => exact rfl))); (with_reducible refine ara_cons ?_); (with_reducible refine ar_int ?_); (with_reducible refine ara_nil ?_); (((with_reducible refine' lf_in ?hvz103 ?_); (case hvz103 => exact rfl))); (((with_reducible refine' use_pick ?hmz105 ?hdz104 ?hzz108 ?h0z106 ?h1z107 ?_); (case hmz105 => walk_at "mem"); (case hdz104 => assumption); (case hzz108 => omega); (case h0z106 => first | omega | (simp only [List.length_map, List.length_append, List.length_cons, List.length_nil, List.length_range]; omega)); (case h1z107 => first | omega | (simp only [List.length_map, List.length_append, List.length_cons, List.length_nil, List.length_range]; omega)); intro _ _ _ _ _)); (rw [mset_mset]); (walk_at "s2"); (with_reducible refine ar_call ?_); (with_reducible refine ara_cons ?_); (((with_reducible refine' ar_var ?hvz109 ?_); (case hvz109 => exact rfl))); (with_reducible refine ara_cons ?_); (with_reducible refine ar_int ?_); (with_reducible refine ara_nil ?_); (((with_reducible refine' lf_in ?hvz110 ?_); (case hvz110 => exact rfl))); (((with_reducible refine' use_pick ?hmz112 ?hdz111 ?hzz115 ?h0z113 ?h1z114 ?_); (case hmz112 => walk_at "mem"); (case hdz111 => assumption); (case hzz115 => omega); (case h0z113 => first | omega | (simp only [List.length_map, List.length_append, List.length_cons, List.length_nil, List.length_range]; omega)); (case h1z114 => first | omega | (simp only [List.length_map, List.length_append, List.length_cons, List.length_nil, List.length_range]; omega)); intro _ _ _ _ _)); (with_reducible refine plus_i ?_); (with_reducible refine arg_name ?_); (with_reducible refine ars_seq ?_); (with_reducible refine ars_asg ?_); (with_reducible refine ar_nilO ?_); (rw [mset_mset]); (dsimp only))
  rename_i r1 c1 g10 g11 hd1 sz hsz r2 c2 g20 g21 hd2 wd hwd r3 c3 g30 g31 hd3 x3 hx3 r4 c4 g40 g41 hd4
  intro p1 hp1
  obtain ⟨ne1, hp1'⟩ := mset_nn hp1
  ((with_reducible refine arg_name ?_); (with_reducible refine ars_seq ?_); (with_reducible refine ars_forP ?_); (with_reducible refine ari_range1 ?_); (with_reducible refine ara_cons ?_); (((with_reducible refine' ar_var ?hvz116 ?_); (case hvz116 => exact rfl))); (with_reducible refine ara_nil ?_); (refine ⟨_, rfl, ⟨by omega, by omega⟩, ?_⟩); (dsimp only))
  refine for_r0 (fun i Γ' m' => ∃ (ns : List Int) (v : Int) (c' : C) (o5 : Option S), Γ' = [some (.r a), some (.d (.int sz)), some (.d (.int wd)), some (.d (.int v)), some (.r p1), o5] ∧ m' = mset (mset m a c') p1 (.lst (ns.map fun n => S.d (.int n))) ∧ DgD c' (z + 4 + i) ∧ ns.length = i ∧ ns.Pairwise (· < ·) ∧ ∀ x ∈ ns, x < v) ⟨[], _, c4, _, rfl, rfl, dd_to hd4 (by omega), rfl, List.Pairwise.nil, fun _ h => (nomatch h)⟩ (fun i Γ' m' hi h => ?_) (fun Γ' m' h => ?_)
  · obtain ⟨ns, v, c', o5, rfl, rfl, hd5, hl, hpw, hlt⟩ := h
    ((with_reducible refine arg_name ?_); (with_reducible refine ars_seq ?_); (with_reducible refine ars_drop ?_); (with_reducible refine ar_bm ?_); (((with_reducible refine' ar_var ?hvz117 ?_); (case hvz117 => exact rfl))); (walk_at "s2"); (with_reducible refine ara_cons ?_); (((with_reducible refine' ar_var ?hvz118 ?_); (case hvz118 => exact rfl))); (with_reducible refine ara_nil ?_); (((with_reducible refine' app_o ?hmz119 ?hvz120 ?_); (case hmz119 => walk_at "mem"); (case hvz120 => first | (simp only [List.length_map, List.length_cons, List.length_nil, List.length_append]; omega) | omega | (simp only [List.length_map, List.length_cons, List.length_nil, List.length_append, List.length_range]; omega)))); (with_reducible refine ars_asg ?_); (with_reducible refine ar_op ?_); (with_reducible refine ar_op ?_); (((with_reducible refine' ar_var ?hvz121 ?_); (case hvz121 => exact rfl))); (with_reducible refine ar_int ?_); (with_reducible refine plus_i ?_); (with_reducible refine ar_call ?_); (with_reducible refine ara_cons ?_); (((with_reducible refine' ar_var ?hvz122 ?_); (case hvz122 => exact rfl))); (with_reducible refine ara_cons ?_); (((with_reducible refine' ar_var ?hvz123 ?_); (case hvz123 => exact rfl))); (with_reducible refine ara_nil ?_); (((with_reducible refine' lf_in ?hvz124 ?_); (case hvz124 => exact rfl))); (((with_reducible refine' use_pick ?hmz126 ?hdz125 ?hzz129 ?h0z127 ?h1z128 ?_); (case hmz126 => walk_at "mem"); (case hdz125 => assumption); (case hzz129 => omega); (case h0z127 => first | omega | (simp only [List.length_map, List.length_append, List.length_cons, List.length_nil, List.length_range]; omega)); (case h1z128 => first | omega | (simp only [List.length_map, List.length_append, List.length_cons, List.length_nil, List.length_range]; omega)); intro _ _ _ _ _)); (with_reducible refine plus_i ?_); (with_reducible refine arg_name ?_); (rw [mset_mset]); (rw [mset_swap (by first | assumption | exact Ne.symm (by assumption))]); (dsimp only))
    rename_i r6 c6 g60 g61 hd6
    exact ⟨ns ++ [v], _, _, _, rfl, by rw [List.map_append]; rfl, dd_to (by assumption) (by omega), by rw [List.length_append, hl]; rfl, List.pairwise_append.mpr ⟨hpw, List.pairwise_singleton _ _, fun x hx y hy => by rw [List.mem_singleton.mp hy]; exact hlt x hx⟩, snoc_all.mpr ⟨fun x hx => by have := hlt x hx; omega, by omega⟩⟩
  · obtain ⟨ns, v, c', o5, rfl, rfl, hd5, hl, hpw, hlt⟩ := h
    ((with_reducible refine ars_ret ?_); (((with_reducible refine' ar_var ?hvz130 ?_); (case hvz130 => exact rfl))); (dsimp only))
    refine rt_fz (ds := ns.map PyData.int) (by rw [dmap]; exact mset_same) (m2 := mset m a c') (Le.set (by rw [mset_ne (Ne.symm ne1)]; exact hp1')) (by rw [mset_ne (Ne.symm ne1)]; exact hp1') (q ns c' (by omega) (by omega) hpw (dd_to hd5 (by omega))))
theorem use_values {a : Addr} {c : C} {z : Int} {m : Mem} {Z : S → Mem → Prop} (hm : m a = some c) (hd : DgD c z) (hz : z < 900000000) (q : ∀ (ns : List Int) (c' : C), 1 ≤ ns.length → ns.length ≤ 16 → ns.Pairwise (· < ·) → DgD c' (z + 20) → Z (.d (dI ns)) (mset m a c')) : f__law_values [.r a] m Z := ⟨a, c, z, rfl, hm, hd, hz, q⟩
theorem rep_size (a : Array Nat) : ∀ (k : Nat) (b : Array Nat), ((List.replicate k a).foldl (· ++ ·) b).size = b.size + k * a.size
  | 0, b => by simp
  | k + 1, b => by
    rw [List.replicate_succ, List.foldl_cons, rep_size a k, Array.size_append, Nat.succ_mul]
    omega
theorem mul_len {x : Str} {n : Int} (h : n ≤ 8) : (Txt.mul x n).length ≤ 8 * x.length := (by
  unfold Txt.mul
  split
  · exact Nat.zero_le _
  · split
    · omega
    · show ((List.replicate n.toNat x.cps).foldl (· ++ ·) #[]).size ≤ _
      rw [rep_size]
      have : n.toNat * x.cps.size ≤ 8 * x.cps.size := Nat.mul_le_mul_right _ (by omega)
      have e : x.length = x.cps.size := rfl
      rw [e]
      simp
      omega)
abbrev abcS : Str := Str.ofString "abcdefghijklmnopqrstuvwxyz"
theorem abc_list : abcS.cps.toList = (List.range 26).map fun k => 97 + k := by decide +kernel
theorem abc_at {i : Int} {k : Nat} (h : atI abcS.cps.toList i = some k) (h0 : 0 ≤ i) (h1 : i < 26) : k = 97 + i.toNat ∧ k ∈ abcS.cps.toList := (by
  obtain ⟨n, rfl⟩ := Int.eq_ofNat_of_zero_le h0
  have h2 : atI abcS.cps.toList ((n : Nat) : Int) = some (97 + n) := at_nat (by rw [abc_list, List.getElem?_map, List.getElem?_range (by omega)]; rfl)
  rw [h2] at h
  have := Option.some.inj h
  refine ⟨by rw [← this]; rfl, ?_⟩
  rw [← this, abc_list]
  exact List.mem_map.mpr ⟨n, List.mem_range.mpr (by omega), rfl⟩)
def NameOk (s : Str) : Prop := 1 ≤ s.length ∧ s.length ≤ 8 ∧ ∀ c ∈ s.cps.toList, c ∈ abcS.cps.toList
theorem rep_mem (a : Array Nat) : ∀ (k : Nat) (b : Array Nat) (c : Nat), c ∈ ((List.replicate k a).foldl (· ++ ·) b).toList → c ∈ b.toList ∨ c ∈ a.toList
  | 0, b, c, h => .inl (by simpa using h)
  | k + 1, b, c, h => by
    rw [List.replicate_succ, List.foldl_cons] at h
    rcases rep_mem a k _ c h with h | h
    · rw [Array.toList_append] at h
      rcases List.mem_append.mp h with h | h
      · exact .inl h
      · exact .inr h
    · exact .inr h
theorem mul_mem {x : Str} {n : Int} {c : Nat} (h : c ∈ (Txt.mul x n).cps.toList) : c ∈ x.cps.toList := (by
  unfold Txt.mul at h
  split at h
  · simp [Str.empty] at h
  · split at h
    · exact h
    · rcases rep_mem _ _ _ _ h with h | h
      · simp at h
      · exact h)
theorem mul_len7 {k : Nat} {n : Int} (h : n ≤ 7) : (Txt.mul (⟨#[k]⟩ : Str) n).length ≤ 7 := (by
  unfold Txt.mul
  split
  · exact Nat.zero_le _
  · split
    · show 1 ≤ 7; decide
    · show ((List.replicate n.toNat _).foldl (· ++ ·) #[]).size ≤ _
      rw [rep_size]
      show (#[] : Array Nat).size + n.toNat * 1 ≤ 7
      simp
      omega)
theorem name_ok {k1 k2 : Nat} {n : Int} (h1 : k1 ∈ abcS.cps.toList) (h2 : k2 ∈ abcS.cps.toList) (hn : n ≤ 7) : NameOk ((⟨#[k1]⟩ : Str) ++ Txt.mul ⟨#[k2]⟩ n) := (by
  have hc : ((⟨#[k1]⟩ : Str) ++ Txt.mul ⟨#[k2]⟩ n).cps = #[k1] ++ (Txt.mul ⟨#[k2]⟩ n).cps := rfl
  have hl : ((⟨#[k1]⟩ : Str) ++ Txt.mul ⟨#[k2]⟩ n).length = 1 + (Txt.mul ⟨#[k2]⟩ n).length := by
    show ((⟨#[k1]⟩ : Str) ++ Txt.mul ⟨#[k2]⟩ n).cps.size = _
    rw [hc, Array.size_append]; rfl
  have := mul_len7 (k := k2) hn
  refine ⟨by omega, by omega, fun c h => ?_⟩
  rw [hc, Array.toList_append] at h
  rcases List.mem_append.mp h with h | h
  · rw [show c = k1 by simpa using h]; exact h1
  · have := mul_mem h
    rw [show c = k2 by simpa using this]; exact h2)
theorem name_hd {k1 : Nat} {s : Str} : ((⟨#[k1]⟩ : Str) ++ s).cps.toList.head? = some k1 := (by
  have hc : ((⟨#[k1]⟩ : Str) ++ s).cps = #[k1] ++ s.cps := rfl
  rw [hc, Array.toList_append]
  rfl)
theorem nodup_img {α β : Type} {f : α → β} {l : List α} (h : (l.map f).Nodup) : l.Nodup := (List.pairwise_map.mp h).imp fun hne e => hne (by rw [e])
def f__law_names : FS := fun xs m Z => ∃ (x : Int) (n : Nat), xs = [.d (.int x), .d (.int (n : Nat))] ∧ 0 ≤ x ∧ x ≤ 1000000 ∧ n ≤ 16 ∧ ∀ nms : List Str, nms.length = n → (∀ s ∈ nms, NameOk s) → nms.Nodup → Z (.d (.list (nms.map PyData.str))) m
set_option maxHeartbeats 1000000 in
theorem c__law_names (B : Facts K mg) : Cal P w K mg base 1 2 "_law_names" f__law_names := (by
  refine cal_dl B.t__law_names sc__law_names (fun f cdv A outer s H E hr => ?_)
  have hu64 := hr.units
  have hu65 : (A.deeper (envOfC "_law_names" (defScope s__law_names) s.heap.objs.size f cdv)).units + 65 < cLine := by have := hr.un; omega
  have hu1 : (A.deeper (envOfC "_law_names" (defScope s__law_names) s.heap.objs.size f cdv)).units + 1 < cLine := by have := hr.un; omega
  refine ⟨_, (pss_cons (ps_set (i := 2) sc__law_names.nd rfl (by first | exact Or.inl rfl | exact Or.inr rfl) pe_str) (pss_cons (ps_set (i := 3) sc__law_names.nd rfl (by first | exact Or.inl rfl | exact Or.inr rfl) (pe_own (pe_lst pa_nil))) (pss_cons (ps_for PassesOwn.never rfl (pi_range1 (by rfl) B.m_range (pa_cons (pv 1) pa_nil)) (pg_name (i := 4) sc__law_names.nd rfl (by first | exact Or.inl rfl | exact Or.inr rfl)) (pss_cons (ps_set (i := 5) sc__law_names.nd rfl (by first | exact Or.inl rfl | exact Or.inr rfl) (pe_ix (ix_allK (K := K) rfl) (pv 2) (pe_op op_mod (pe_op (op_plusK (K := K) rfl) (pv 0) (pe_op (op_timesK (K := K) rfl) pe_int (pv 4))) pe_int) (fun _ _ => rfl))) (pss_cons (ps_set (i := 6) sc__law_names.nd rfl (by first | exact Or.inl rfl | exact Or.inr rfl) (pe_ix (ix_allK (K := K) rfl) (pv 2) (pe_op op_mod (pe_op (op_fdivsK (K := K) rfl) (pv 0) pe_int) pe_int) (fun _ _ => rfl))) (pss_one (ps_expr (pe_bmK (K := K) rfl PySem.F.plainAttrs_list PySem.F.slot_list_append PySem.F.type_list_append mt_append (pv 3) (pa_cons (pe_op (op_plusK (K := K) rfl) (pv 5) (pe_op op_smul (pv 6) (pe_op op_mod (pe_op (op_plusK (K := K) rfl) (pe_op (op_fdivsK (K := K) rfl) (pv 0) pe_int) (pe_op (op_timesK (K := K) rfl) pe_int (pv 4))) pe_int))) pa_nil))))))) (pss_one (ps_ret (pv 3)))))), fun xs m Z h => ?_⟩
  clear hr hu64 hu65 hu1
  change ARS K _ (List.map some xs ++ List.replicate (7 - xs.length) none) m _
  -- slots: 0=_law_number 1=_law_many 2=_law_letters 3=_law_some 4=_law_k 5=_law_first 6=_law_tail
  obtain ⟨x, n, rfl, h0, h1, hn, q⟩ := h
  ((with_reducible refine ars_seq ?_); (with_reducible refine ars_asg ?_); (with_reducible refine ar_str ?_); (with_reducible refine arg_name ?_); (with_reducible refine ars_seq ?_); (with_reducible refine ars_asg ?_); (with_reducible refine ar_nilO ?_); (dsimp only))
  intro p1 hp1
  ((with_reducible refine arg_name ?_); (with_reducible refine ars_seq ?_); (with_reducible refine ars_forP ?_); (with_reducible refine ari_range1 ?_); (with_reducible refine ara_cons ?_); (((with_reducible refine' ar_var ?hvz131 ?_); (case hvz131 => exact rfl))); (with_reducible refine ara_nil ?_); (refine ⟨_, rfl, ⟨by omega, by omega⟩, ?_⟩); (dsimp only))
  refine for_r0 (fun i Γ' m' => ∃ (nms : List Str) (o4 o5 o6 : Option S), Γ' = [some (.d (.int x)), some (.d (.int (n : Nat))), some (.d (.str "abcdefghijklmnopqrstuvwxyz")), some (.r p1), o4, o5, o6] ∧ m' = mset m p1 (.lst (nms.map fun s => S.d (.str s))) ∧ nms.length = i ∧ (∀ s ∈ nms, NameOk s) ∧ nms.map (fun s => s.cps.toList.head?) = (List.range i).map fun (j : Nat) => some (97 + ((x + 7 * (j : Int)) % 26).toNat)) ⟨[], _, _, _, rfl, rfl, rfl, fun _ h => (nomatch h), rfl⟩ (fun i Γ' m' hi h => ?_) (fun Γ' m' h => ?_)
  · obtain ⟨nms, o4, o5, o6, rfl, rfl, hl, hok, hhd⟩ := h
    ((with_reducible refine arg_name ?_); (with_reducible refine ars_seq ?_); (with_reducible refine ars_asg ?_); (with_reducible refine ar_op ?_); (((with_reducible refine' ar_var ?hvz132 ?_); (case hvz132 => exact rfl))); (with_reducible refine ar_op ?_); (with_reducible refine ar_op ?_); (((with_reducible refine' ar_var ?hvz133 ?_); (case hvz133 => exact rfl))); (with_reducible refine ar_op ?_); (with_reducible refine ar_int ?_); (((with_reducible refine' ar_var ?hvz134 ?_); (case hvz134 => exact rfl))); (((with_reducible refine' times_a ?hvz136 ?hwz135 ?_); (case hvz136 => omega); (case hwz135 => omega))); (with_reducible refine plus_i ?_); (with_reducible refine ar_int ?_); (((with_reducible refine' mod_s ?hvz137 ?_); (case hvz137 => omega))); (dsimp only))
    obtain ⟨k1, hk1, _⟩ := at_int (xs := abcS.cps.toList) (i := (x + 7 * (i : Int)) % 26) (by omega) (by show (x + 7 * (i : Int)) % 26 < 26; omega)
    refine ix_s (by decide) hk1 ?_
    ((with_reducible refine arg_name ?_); (with_reducible refine ars_seq ?_); (with_reducible refine ars_asg ?_); (with_reducible refine ar_op ?_); (((with_reducible refine' ar_var ?hvz138 ?_); (case hvz138 => exact rfl))); (with_reducible refine ar_op ?_); (with_reducible refine ar_op ?_); (((with_reducible refine' ar_var ?hvz139 ?_); (case hvz139 => exact rfl))); (with_reducible refine ar_int ?_); (((with_reducible refine' fdiv_s ?hvz141 ?hwz140 ?_); (case hvz141 => omega); (case hwz140 => omega))); (with_reducible refine ar_int ?_); (((with_reducible refine' mod_s ?hvz142 ?_); (case hvz142 => omega))); (dsimp only))
    obtain ⟨k2, hk2, _⟩ := at_int (xs := abcS.cps.toList) (i := x / 26 % 26) (by omega) (by show x / 26 % 26 < 26; omega)
    refine ix_s (by decide) hk2 ?_
    ((with_reducible refine arg_name ?_); (with_reducible refine ars_drop ?_); (with_reducible refine ar_bm ?_); (((with_reducible refine' ar_var ?hvz143 ?_); (case hvz143 => exact rfl))); (walk_at "s1"); (with_reducible refine ara_cons ?_); (with_reducible refine ar_op ?_); (((with_reducible refine' ar_var ?hvz144 ?_); (case hvz144 => exact rfl))); (with_reducible refine ar_op ?_); (((with_reducible refine' ar_var ?hvz145 ?_); (case hvz145 => exact rfl))); (with_reducible refine ar_op ?_); (with_reducible refine ar_op ?_); (with_reducible refine ar_op ?_); (((with_reducible refine' ar_var ?hvz146 ?_); (case hvz146 => exact rfl))); (with_reducible refine ar_int ?_); (((with_reducible refine' fdiv_s ?hvz148 ?hwz147 ?_); (case hvz148 => omega); (case hwz147 => omega))); (with_reducible refine ar_op ?_); (with_reducible refine ar_int ?_); (((with_reducible refine' ar_var ?hvz149 ?_); (case hvz149 => exact rfl))); (((with_reducible refine' times_a ?hvz151 ?hwz150 ?_); (case hvz151 => omega); (case hwz150 => omega))); (with_reducible refine plus_i ?_); (with_reducible refine ar_int ?_); (((with_reducible refine' mod_s ?hvz152 ?_); (case hvz152 => omega))); (dsimp only))
    refine smul_s (by show 1 ≤ 1000; decide) (by omega) (by omega) ?_
    skip
    refine plus_s (by
      have := mul_len (x := (⟨#[k2]⟩ : Str)) (n := (x / 676 + 5 * (i : Int)) % 8) (by omega)
      have e1 : (⟨#[k2]⟩ : Str).length = 1 := rfl
      have e2 : (⟨#[k1]⟩ : Str).length = 1 := rfl
      omega) ?_
    ((with_reducible refine ara_nil ?_); (((with_reducible refine' app_o ?hmz153 ?hvz154 ?_); (case hmz153 => walk_at "mem"); (case hvz154 => first | (simp only [List.length_map, List.length_cons, List.length_nil, List.length_append]; omega) | omega | (simp only [List.length_map, List.length_cons, List.length_nil, List.length_append, List.length_range]; omega)))); (rw [mset_mset]))
    obtain ⟨e1, m1⟩ := abc_at hk1 (by omega) (by omega)
    obtain ⟨e2, m2⟩ := abc_at hk2 (by omega) (by omega)
    exact ⟨nms ++ [(⟨#[k1]⟩ : Str) ++ Txt.mul ⟨#[k2]⟩ ((x / 676 + 5 * (i : Int)) % 8)], _, _, _, rfl, by rw [List.map_append]; rfl, by rw [List.length_append, hl]; rfl, snoc_all.mpr ⟨hok, name_ok m1 m2 (by omega)⟩, by rw [List.map_append, hhd, List.range_succ, List.map_append]; simp only [List.map_cons, List.map_nil, name_hd, e1]⟩
  · obtain ⟨nms, o4, o5, o6, rfl, rfl, hl, hok, hhd⟩ := h
    have hnd : nms.Nodup := by
      refine nodup_img (f := fun s => s.cps.toList.head?) ?_
      rw [hhd]
      refine List.pairwise_map.mpr (List.Pairwise.imp_of_mem (fun {a b} ha hb hne e => ?_) (List.nodup_range (n := _)))
      have ha := List.mem_range.mp ha
      have hb := List.mem_range.mp hb
      have e := Option.some.inj e
      have hn2 : n ≤ 16 := hn
      have : a < 16 ∧ b < 16 := by simp at ha hb; omega
      exact hne (by omega)
    ((with_reducible refine ars_ret ?_); (((with_reducible refine' ar_var ?hvz155 ?_); (case hvz155 => exact rfl))); (dsimp only))
    exact rt_fz (ds := nms.map PyData.str) (by rw [dmap]; exact mset_same) (m2 := m) (Le.set hp1) hp1 (q nms (by omega) hok hnd))
abbrev Th := Str × List Int
abbrev dTh (t : Th) : PyData := .tuple [.str t.1, dI t.2]
abbrev dThs (ts : List Th) : PyData := .list (ts.map dTh)
def ThOk (t : Th) : Prop := 1 ≤ t.2.length ∧ t.2.length ≤ 16
def ThV (t : Th) : Prop := NameOk t.1 ∧ t.2.Pairwise (· < ·)
def f__law_things : FS := fun xs m Z => ∃ (a : Addr) (c : C) (z x : Int), xs = [.r a, .d (.int x)] ∧ m a = some c ∧ DgD c z ∧ z < 800000000 ∧ 0 ≤ x ∧ x ≤ 1000000 ∧ ∀ (ts : List Th) (c' : C), 1 ≤ ts.length → ts.length ≤ 16 → (∀ t ∈ ts, ThOk t) → (∀ t ∈ ts, ThV t) → (ts.map (·.1)).Nodup → DgD c' (z + 400) → Z (.d (dThs ts)) (mset m a c')
set_option maxHeartbeats 1000000 in
theorem c__law_things (B : Facts K mg) : Cal P w K mg base 4 2 "_law_things" f__law_things := (by
  refine cal_dl B.t__law_things sc__law_things (fun f cdv A outer s H E hr => ?_)
  have hu64 := hr.units
  have hu65 : (A.deeper (envOfC "_law_things" (defScope s__law_things) s.heap.objs.size f cdv)).units + 65 < cLine := by have := hr.un; omega
  have hu1 : (A.deeper (envOfC "_law_things" (defScope s__law_things) s.heap.objs.size f cdv)).units + 1 < cLine := by have := hr.un; omega
  refine ⟨_, (pss_cons (ps_set (i := 2) sc__law_things.nd rfl (by first | exact Or.inl rfl | exact Or.inr rfl) (pe_ix (ix_allK (K := K) rfl) (pe_lst (pa_cons pe_int (pa_cons pe_int (pa_cons pe_int (pa_cons pe_int (pa_cons pe_int (pa_cons pe_int pa_nil))))))) (pe_fK (K := K) rfl (c__law_pick B) hr (by decide) (by rfl) (pa_cons (pv 0) (pa_cons pe_int pa_nil))) (fun _ _ => rfl))) (pss_one (ps_ret (pe_lc (own := [("_law_name", 3)]) rfl sc__law_things.nd (pi_listK (K := K) rfl (pe_fK (K := K) rfl (c__law_names B) hr (by decide) (by rfl) (pa_cons (pv 1) (pa_cons (pv 2) pa_nil)))) (blkOk_by (N := N__law_things) (by first | (show blkC _ (defScope s__law_things) _ _ = true; decide +kernel) | (show blkC _ (relS _ (defScope s__law_things)) _ _ = true; decide +kernel) | (show blkC _ (relS _ (relS _ (defScope s__law_things))) _ _ = true; decide +kernel))) (fun _ _ _ _ _ => (pg_name (i := 3) sc__law_things.nd rfl (by first | exact Or.inl rfl | exact Or.inr rfl))) (fun _ _ _ _ _ => pts_nil) (fun _ _ _ _ _ => (pe_tup (pa_cons (pv 3) (pa_cons (pe_fK (K := K) rfl (c__law_values B) hr (by decide) (by rfl) (pa_cons (pv 0) pa_nil)) pa_nil)))))))), fun xs m Z h => ?_⟩
  clear hr hu64 hu65 hu1
  change ARS K _ (List.map some xs ++ List.replicate (4 - xs.length) none) m _
  -- slots: 0=_law_d 1=_law_number 2=_law_many 3=_law_name
  obtain ⟨a, c, z, x, rfl, hm, hd, hz, h0, h1, q⟩ := h
  ((with_reducible refine ars_seq ?_); (with_reducible refine ars_asg ?_); (with_reducible refine ar_op ?_); (with_reducible refine ar_lstD ?_); (with_reducible refine ara_cons ?_); (with_reducible refine ar_int ?_); (with_reducible refine ara_cons ?_); (with_reducible refine ar_int ?_); (with_reducible refine ara_cons ?_); (with_reducible refine ar_int ?_); (with_reducible refine ara_cons ?_); (with_reducible refine ar_int ?_); (with_reducible refine ara_cons ?_); (with_reducible refine ar_int ?_); (with_reducible refine ara_cons ?_); (with_reducible refine ar_int ?_); (with_reducible refine ara_nil ?_); (((with_reducible refine' ex_dsn ?hvz156 ?_); (case hvz156 => exact rfl); dsimp only [List.map, unS])); (walk_at "s2"); (with_reducible refine ar_call ?_); (with_reducible refine ara_cons ?_); (((with_reducible refine' ar_var ?hvz157 ?_); (case hvz157 => exact rfl))); (with_reducible refine ara_cons ?_); (with_reducible refine ar_int ?_); (with_reducible refine ara_nil ?_); (((with_reducible refine' lf_in ?hvz158 ?_); (case hvz158 => exact rfl))); (((with_reducible refine' use_pick ?hmz160 ?hdz159 ?hzz163 ?h0z161 ?h1z162 ?_); (case hmz160 => walk_at "mem"); (case hdz159 => assumption); (case hzz163 => omega); (case h0z161 => first | omega | (simp only [List.length_map, List.length_append, List.length_cons, List.length_nil, List.length_range]; omega)); (case h1z162 => first | omega | (simp only [List.length_map, List.length_append, List.length_cons, List.length_nil, List.length_range]; omega)); intro _ _ _ _ _)); (walk_at "s2"); (with_reducible refine arg_name ?_); (with_reducible refine ars_ret ?_); (with_reducible refine ar_lcDP ?_); (with_reducible refine ari_list ?_); (with_reducible refine ar_call ?_); (with_reducible refine ara_cons ?_); (((with_reducible refine' ar_var ?hvz164 ?_); (case hvz164 => exact rfl))); (with_reducible refine ara_cons ?_); (((with_reducible refine' ar_var ?hvz165 ?_); (case hvz165 => exact rfl))); (with_reducible refine ara_nil ?_); (((with_reducible refine' lf_in ?hvz166 ?_); (case hvz166 => exact rfl))); (dsimp only))
  rename_i r1 c1 g10 g11 hd1 mn hmn
  obtain ⟨n, rfl⟩ := Int.eq_ofNat_of_zero_le (show 0 ≤ mn by omega)
  refine ⟨x, n, rfl, h0, h1, by omega, fun nms hnl hnok hnnd => ?_⟩
  ((with_reducible refine itl_d ?_))
  refine lc_mem nms (fun s => .d (.str s)) dmap (fun pre acc m' => ∃ (ts : List Th) (c' : C), acc = ts.map dTh ∧ m' = mset m a c' ∧ DgD c' (z + 1 + 20 * pre.length) ∧ ts.map (·.1) = pre ∧ (∀ t ∈ ts, ThOk t) ∧ ∀ t ∈ ts, ThV t) (by omega) (fun _ _ _ _ => True.intro) ⟨[], c1, rfl, rfl, by simpa using hd1, rfl, fun _ h => (nomatch h), fun _ h => (nomatch h)⟩ (fun pre s post acc m' he h => ?_) (fun acc m' h hl2 => ?_)
  · obtain ⟨ts, c', rfl, rfl, hd2, hl, ht, hv⟩ := h
    have hpl := (pre_lt he).1
    ((with_reducible refine argw_name (by decide) ?_); (with_reducible refine art_yes ?_); (((with_reducible refine' iteTd ?hvz167 ?_); (case hvz167 => decide +kernel))); (with_reducible refine ar_tup ?_); (with_reducible refine ara_cons ?_); (((with_reducible refine' ar_var ?hvz168 ?_); (case hvz168 => exact rfl))); (with_reducible refine ara_cons ?_); (with_reducible refine ar_call ?_); (with_reducible refine ara_cons ?_); (((with_reducible refine' ar_var ?hvz169 ?_); (case hvz169 => exact rfl))); (with_reducible refine ara_nil ?_); (((with_reducible refine' lf_in ?hvz170 ?_); (case hvz170 => exact rfl))))
    refine use_values mset_same hd2 (by omega) fun ns c3 h3 h4 h5 hd3 => ?_
    rw [mset_mset]
    ((with_reducible refine ara_nil ?_); (with_reducible refine ex_ds2 ?_); (walk_at "s1"); (refine ⟨_, rfl, ?_⟩))
    exact ⟨ts ++ [(s, ns)], c3, by rw [List.map_append]; rfl, rfl, dd_to hd3 (by rw [List.length_append]; simp; omega), by rw [List.map_append, hl]; rfl, snoc_all.mpr ⟨ht, h3, h4⟩, snoc_all.mpr ⟨hv, hnok s (pre_lt he).2, h5⟩⟩
  · obtain ⟨ts, c', rfl, rfl, hd2, hl, ht, hv⟩ := h
    have hl3 : ts.length = nms.length := by rw [← hl, List.length_map]
    exact rt_id (q ts c' (by omega) (by omega) ht hv (by rw [hl]; exact hnnd) (dd_to hd2 (by omega))))
/-! what things are: of any data -/
def isNum : PyData → Bool
  | .int _ => true
  | _ => false
def f_is_number : FS := fun xs m Z => ∃ d : PyData, xs = [.d d] ∧ Z (.d (.bool (isNum d))) m
theorem c_is_number (B : Facts K mg) : Cal P w K mg base 1 1 "is_number" f_is_number := (by
  refine cal_dl B.t_is_number sc_is_number (fun f cdv A outer s H E hr => ?_)
  have hu64 := hr.units
  have hu65 : (A.deeper (envOfC "is_number" (defScope s_is_number) s.heap.objs.size f cdv)).units + 65 < cLine := by have := hr.un; omega
  have hu1 : (A.deeper (envOfC "is_number" (defScope s_is_number) s.heap.objs.size f cdv)).units + 1 < cLine := by have := hr.un; omega
  refine ⟨_, (pss_one (ps_ret (pe_and (pe_callB (call_isiK' (K := K) rfl) (by rfl) B.m_isinstance (by decide +kernel) (pa_cons (pv 0) (pa_cons (pe_bltn (v := .ty "int") (by rfl) B.m_int (by decide +kernel) rfl) pa_nil))) (pe_one (pe_not (pe_callB (call_isiK' (K := K) rfl) (by rfl) B.m_isinstance (by decide +kernel) (pa_cons (pv 0) (pa_cons (pe_bltn (v := .ty "bool") (by rfl) B.m_bool (by decide +kernel) rfl) pa_nil)))))))), fun xs m Z h => ?_⟩
  clear hr hu64 hu65 hu1
  change ARS K _ (List.map some xs ++ List.replicate (1 - xs.length) none) m _
  -- slots: 0=number
  obtain ⟨d, rfl, q⟩ := h
  cases d <;> (walk_at "go"; exact rt_id q))
def f_are_numbers : FS := fun xs m Z => ∃ ds : List PyData, xs = [.d (.list ds)] ∧ ds.length ≤ 100000 ∧ Z (.d (.bool (ds.all isNum))) m
theorem c_are_numbers (B : Facts K mg) : Cal P w K mg base 2 1 "are_numbers" f_are_numbers := (by
  refine cal_dl B.t_are_numbers sc_are_numbers (fun f cdv A outer s H E hr => ?_)
  have hu64 := hr.units
  have hu65 : (A.deeper (envOfC "are_numbers" (defScope s_are_numbers) s.heap.objs.size f cdv)).units + 65 < cLine := by have := hr.un; omega
  have hu1 : (A.deeper (envOfC "are_numbers" (defScope s_are_numbers) s.heap.objs.size f cdv)).units + 1 < cLine := by have := hr.un; omega
  refine ⟨_, (pss_one (ps_ret (pe_callB (cr_allK (K := K) rfl rfl) (by rfl) B.m_all (by decide +kernel) (pa_cons (pe_lc (own := [("number", 1)]) rfl sc_are_numbers.nd (pi_listK (K := K) rfl (pv 0)) (blkOk_by (N := N_are_numbers) (by first | (show blkC _ (defScope s_are_numbers) _ _ = true; decide +kernel) | (show blkC _ (relS _ (defScope s_are_numbers)) _ _ = true; decide +kernel) | (show blkC _ (relS _ (relS _ (defScope s_are_numbers))) _ _ = true; decide +kernel))) (fun _ _ _ _ _ => (pg_name (i := 1) sc_are_numbers.nd rfl (by first | exact Or.inl rfl | exact Or.inr rfl))) (fun _ _ _ _ _ => pts_nil) (fun _ _ _ _ _ => (pe_fK (K := K) rfl (c_is_number B) hr (by decide) (by rfl) (pa_cons (pv 1) pa_nil)))) pa_nil)))), fun xs m Z h => ?_⟩
  clear hr hu64 hu65 hu1
  change ARS K _ (List.map some xs ++ List.replicate (2 - xs.length) none) m _
  -- slots: 0=numbers 1=number
  obtain ⟨ds, rfl, hl, q⟩ := h
  ((with_reducible refine ars_ret ?_); (with_reducible refine ar_cb ?_); (with_reducible refine ara_cons ?_); (with_reducible refine ar_lcDP ?_); (with_reducible refine ari_list ?_); (((with_reducible refine' ar_var ?hvz171 ?_); (case hvz171 => exact rfl))); (with_reducible refine itl_d ?_); (dsimp only))
  refine lc_map ds (fun d => .d d) rfl (fun d => .bool (isNum d)) (by omega) True.intro (fun d hd => ?_) ?_
  · ((with_reducible refine argw_name (by decide) ?_); (walk_at "s1"); (with_reducible refine ar_call ?_); (with_reducible refine ara_cons ?_); (((with_reducible refine' ar_var ?hvz172 ?_); (case hvz172 => exact rfl))); (with_reducible refine ara_nil ?_); (((with_reducible refine' lf_in ?hvz173 ?_); (case hvz173 => exact rfl))); (refine ⟨_, rfl, ?_⟩); (walk_at "s1"); (dsimp only))
  ((with_reducible refine ara_nil ?_); (with_reducible refine all_m ?_))
  exact rt_id q)
def tup2 : PyData → Bool
  | .tuple ds => decide (ds.length = 2)
  | _ => false
def f_is_tuple_of : FS := fun xs m Z => ∃ d : PyData, xs = [.d d, .d (.int 2)] ∧ Z (.d (.bool (tup2 d))) m
theorem c_is_tuple_of (B : Facts K mg) : Cal P w K mg base 1 2 "is_tuple_of" f_is_tuple_of := (by
  refine cal_dl B.t_is_tuple_of sc_is_tuple_of (fun f cdv A outer s H E hr => ?_)
  have hu64 := hr.units
  have hu65 : (A.deeper (envOfC "is_tuple_of" (defScope s_is_tuple_of) s.heap.objs.size f cdv)).units + 65 < cLine := by have := hr.un; omega
  have hu1 : (A.deeper (envOfC "is_tuple_of" (defScope s_is_tuple_of) s.heap.objs.size f cdv)).units + 1 < cLine := by have := hr.un; omega
  refine ⟨_, (pss_one (ps_ret (pe_and (pe_callB (call_isiK' (K := K) rfl) (by rfl) B.m_isinstance (by decide +kernel) (pa_cons (pv 0) (pa_cons (pe_bltn (v := .ty "tuple") (by rfl) B.m_tuple (by decide +kernel) rfl) pa_nil))) (pe_one (pe_cmpR (op_EQK (K := K) rfl hu64) (pe_callB (cr_lenK (K := K) rfl) (by rfl) B.m_len (by decide +kernel) (pa_cons (pv 0) pa_nil)) (pv 1) (nomark _)))))), fun xs m Z h => ?_⟩
  clear hr hu64 hu65 hu1
  change ARS K _ (List.map some xs ++ List.replicate (2 - xs.length) none) m _
  -- slots: 0=part 1=size
  obtain ⟨d, rfl, q⟩ := h
  cases d with
  | tuple ds =>
    ((with_reducible refine ars_ret ?_); (with_reducible refine ar_andV ?_); (with_reducible refine ar_cb ?_); (with_reducible refine ara_cons ?_); (((with_reducible refine' ar_var ?hvz174 ?_); (case hvz174 => exact rfl))); (with_reducible refine ara_cons ?_); (with_reducible refine ar_ty ?_); (with_reducible refine ara_nil ?_); (((with_reducible refine' isi_d ?hvz175 ?_); (case hvz175 => exact rfl))); (refine ⟨_, rfl, ?_⟩); (((with_reducible refine' iteTd ?hvz176 ?_); (case hvz176 => decide +kernel))); (with_reducible refine ar_op ?_); (with_reducible refine ar_cb ?_); (with_reducible refine ara_cons ?_); (((with_reducible refine' ar_var ?hvz177 ?_); (case hvz177 => exact rfl))); (with_reducible refine ara_nil ?_); (with_reducible refine len_t ?_); (((with_reducible refine' ar_var ?hvz178 ?_); (case hvz178 => exact rfl))); (with_reducible refine eq_i ?_); (dsimp only))
    rw [show decide ((ds.length : Int) = 2) = decide (ds.length = 2) from decide_eq_decide.mpr (by omega)]
    exact rt_id q
  | _ =>
    walk_at "go"
    exact rt_id q)
def naB : PyData → Bool
  | .str s => decide (1 ≤ s.length) && (decide (s.length ≤ 8) && s.cps.toList.all fun c => decide (c ∈ abcS.cps.toList))
  | _ => false
def naP : PyData → Prop
  | .str s => s.length ≤ 100000
  | _ => True
def f_is_name : FS := fun xs m Z => ∃ d : PyData, xs = [.d d] ∧ naP d ∧ Z (.d (.bool (naB d))) m
theorem c_is_name (B : Facts K mg) : Cal P w K mg base 1 1 "is_name" f_is_name := (by
  refine cal_dl B.t_is_name sc_is_name (fun f cdv A outer s H E hr => ?_)
  have hu64 := hr.units
  have hu65 : (A.deeper (envOfC "is_name" (defScope s_is_name) s.heap.objs.size f cdv)).units + 65 < cLine := by have := hr.un; omega
  have hu1 : (A.deeper (envOfC "is_name" (defScope s_is_name) s.heap.objs.size f cdv)).units + 1 < cLine := by have := hr.un; omega
  refine ⟨_, (pss_cons (ps_if ((pw_or (pt_not (pt_val (pe_callB (call_isiK' (K := K) rfl) (by rfl) B.m_isinstance (by decide +kernel) (pa_cons (pv 0) (pa_cons (pe_bltn (v := .ty "str") (by rfl) B.m_str (by decide +kernel) rfl) pa_nil))))) (pw_or1 (pt_not (pt_chain op_le op_le pe_int (pe_callB (cr_lenK (K := K) rfl) (by rfl) B.m_len (by decide +kernel) (pa_cons (pv 0) pa_nil)) (pe_glob (v := V.int 8) (by rfl) (B.v_MOST_NAME.choose_spec) ⟨_, rfl⟩)))))).pt (pss_one (ps_ret pe_bl)) pss_nil) (pss_one (ps_ret (pe_callB (cr_allK (K := K) rfl rfl) (by rfl) B.m_all (by decide +kernel) (pa_cons (pe_lc (own := [("letter", 1)]) rfl sc_is_name.nd (pi_str (pv 0)) (blkOk_by (N := N_is_name) (by first | (show blkC _ (defScope s_is_name) _ _ = true; decide +kernel) | (show blkC _ (relS _ (defScope s_is_name)) _ _ = true; decide +kernel) | (show blkC _ (relS _ (relS _ (defScope s_is_name))) _ _ = true; decide +kernel))) (fun _ _ _ _ _ => (pg_name (i := 1) sc_is_name.nd rfl (by first | exact Or.inl rfl | exact Or.inr rfl))) (fun _ _ _ _ _ => pts_nil) (fun _ _ _ _ _ => (pe_cmpR (op_INSK (K := K) rfl hu65) (pv 1) (pe_glob (v := V.str "abcdefghijklmnopqrstuvwxyz") (by rfl) (B.v_LETTERS.choose_spec) ⟨_, rfl⟩) (by rfl)))) pa_nil))))), fun xs m Z h => ?_⟩
  clear hr hu64 hu65 hu1
  change ARS K _ (List.map some xs ++ List.replicate (2 - xs.length) none) m _
  -- slots: 0=name 1=letter
  obtain ⟨d, rfl, hp, q⟩ := h
  cases d with
  | str s =>
    have hp : s.length ≤ 100000 := hp
    have q : Z (.d (.bool (decide (1 ≤ s.length) && (decide (s.length ≤ 8) && s.cps.toList.all fun c => decide (c ∈ abcS.cps.toList))))) m := q
    ((with_reducible refine ars_seq ?_); (with_reducible refine ars_if ?_); (with_reducible refine art_or ?_); (with_reducible refine art_not ?_); (with_reducible refine art_tb ?_); (with_reducible refine ar_cb ?_); (with_reducible refine ara_cons ?_); (((with_reducible refine' ar_var ?hvz179 ?_); (case hvz179 => exact rfl))); (with_reducible refine ara_cons ?_); (with_reducible refine ar_ty ?_); (with_reducible refine ara_nil ?_); (((with_reducible refine' isi_d ?hvz180 ?_); (case hvz180 => exact rfl))); (refine ⟨_, rfl, ?_⟩); (((with_reducible refine' iteFd ?hvz181 ?_); (case hvz181 => decide +kernel))); (with_reducible refine art_not ?_); (with_reducible refine art_test ?_); (with_reducible refine ar_chain ?_); (with_reducible refine ar_int ?_); (with_reducible refine ar_cb ?_); (with_reducible refine ara_cons ?_); (((with_reducible refine' ar_var ?hvz182 ?_); (case hvz182 => exact rfl))); (with_reducible refine ara_nil ?_); (dsimp only))
    refine len_s (by omega) ?_
    ((with_reducible refine ex_ii ?_))
    refine iteD (fun hc1 => ?_) (fun hc1 => ?_)
    · ((with_reducible refine ar_int ?_); (refine ⟨_, rfl, ?_⟩); (refine ⟨_, rfl, ?_⟩))
      refine iteND (fun hc2 => ?_) (fun hc2 => ?_)
      · ((with_reducible refine ars_ret ?_); (with_reducible refine ar_bl ?_); (dsimp only))
        rw [decide_eq_false (show ¬ s.length ≤ 8 by omega), Bool.false_and, Bool.and_false] at q
        exact rt_id q
      · ((with_reducible refine ars_next ?_); (with_reducible refine ars_ret ?_); (with_reducible refine ar_cb ?_); (with_reducible refine ara_cons ?_); (with_reducible refine ar_lcDP ?_); (dsimp only))
        refine ari_str ?_
        ((((with_reducible refine' ar_var ?hvz183 ?_); (case hvz183 => exact rfl))); (refine ⟨_, rfl, ?_⟩))
        refine lc_map s.cps.toList (fun c => .d (.str ⟨#[c]⟩)) rfl (fun c => .bool (decide (c ∈ abcS.cps.toList))) (by have : s.cps.toList.length = s.length := Array.length_toList; omega) True.intro (fun c hcm => ?_) ?_
        · ((with_reducible refine argw_name (by decide) ?_); (walk_at "s1"); (with_reducible refine ar_op ?_); (((with_reducible refine' ar_var ?hvz184 ?_); (case hvz184 => exact rfl))); (with_reducible refine ar_str ?_))
          refine in_sign ?_
          ((walk_at "s1"); (dsimp only))
        ((with_reducible refine ara_nil ?_); (with_reducible refine all_m ?_))
        rw [decide_eq_true (show 1 ≤ s.length by omega), decide_eq_true (show s.length ≤ 8 by omega), Bool.true_and, Bool.true_and] at q
        exact rt_id q
    · ((refine ⟨_, rfl, ?_⟩); (((with_reducible refine' iteTd ?hvz185 ?_); (case hvz185 => decide +kernel))); (with_reducible refine ars_ret ?_); (with_reducible refine ar_bl ?_); (dsimp only))
      rw [decide_eq_false (show ¬ 1 ≤ s.length by omega), Bool.false_and] at q
      exact rt_id q
  | _ =>
    walk_at "go"
    exact rt_id q)
def rsB (ns : List Int) : Bool := (List.range (ns.length - 1)).all fun k => decide (ns.getD k 0 < ns.getD (k + 1) 0)
def vaB : PyData → Bool
  | .list ds => decide (ds.length ≠ 0) && (ds.all isNum && rsB (ds.map unI))
  | _ => false
def vaP : PyData → Prop
  | .list ds => ds.length ≤ 100000
  | _ => True
theorem nums_of : ∀ {ds : List PyData}, ds.all isNum = true → ds = (ds.map unI).map PyData.int
  | [], _ => rfl
  | d :: ds, h => by
    rw [List.all_cons, Bool.and_eq_true] at h
    have h2 := nums_of h.2
    cases d with
    | int i => show PyData.int i :: ds = PyData.int i :: (ds.map unI).map PyData.int; rw [← h2]
    | _ => exact absurd h.1 (by simp [isNum])
def f_are_values : FS := fun xs m Z => ∃ d : PyData, xs = [.d d] ∧ vaP d ∧ Z (.d (.bool (vaB d))) m
theorem c_are_values (B : Facts K mg) : Cal P w K mg base 3 1 "are_values" f_are_values := (by
  refine cal_dl B.t_are_values sc_are_values (fun f cdv A outer s H E hr => ?_)
  have hu64 := hr.units
  have hu65 : (A.deeper (envOfC "are_values" (defScope s_are_values) s.heap.objs.size f cdv)).units + 65 < cLine := by have := hr.un; omega
  have hu1 : (A.deeper (envOfC "are_values" (defScope s_are_values) s.heap.objs.size f cdv)).units + 1 < cLine := by have := hr.un; omega
  refine ⟨_, (pss_cons (ps_if ((pw_or (pt_not (pt_val (pe_callB (call_isiK' (K := K) rfl) (by rfl) B.m_isinstance (by decide +kernel) (pa_cons (pv 0) (pa_cons (pe_bltn (v := .ty "list") (by rfl) B.m_list (by decide +kernel) rfl) pa_nil))))) (pw_or (pt_cmpR (op_EQK (K := K) rfl hu64) (pe_callB (cr_lenK (K := K) rfl) (by rfl) B.m_len (by decide +kernel) (pa_cons (pv 0) pa_nil)) pe_int (nomark _)) (pw_or1 (pt_not (pt_val (pe_fK (K := K) rfl (c_are_numbers B) hr (by decide) (by rfl) (pa_cons (pv 0) pa_nil)))))))).pt (pss_one (ps_ret pe_bl)) pss_nil) (pss_one (ps_ret (pe_callB (cr_allK (K := K) rfl rfl) (by rfl) B.m_all (by decide +kernel) (pa_cons (pe_lc (own := [("k", 1)]) rfl sc_are_values.nd (pi_range1 (by rfl) B.m_range (pa_cons (pe_op op_sub (pe_callB (cr_lenK (K := K) rfl) (by rfl) B.m_len (by decide +kernel) (pa_cons (pv 0) pa_nil)) pe_int) pa_nil)) (blkOk_by (N := N_are_values) (by first | (show blkC _ (defScope s_are_values) _ _ = true; decide +kernel) | (show blkC _ (relS _ (defScope s_are_values)) _ _ = true; decide +kernel) | (show blkC _ (relS _ (relS _ (defScope s_are_values))) _ _ = true; decide +kernel))) (fun _ _ _ _ _ => (pg_name (i := 1) sc_are_values.nd rfl (by first | exact Or.inl rfl | exact Or.inr rfl))) (fun _ _ _ _ _ => pts_nil) (fun _ _ _ _ _ => (pe_cmpR op_lt (pe_ix (ix_allK (K := K) rfl) (pv 0) (pv 1) (fun _ _ => rfl)) (pe_ix (ix_allK (K := K) rfl) (pv 0) (pe_op (op_plusK (K := K) rfl) (pv 1) pe_int) (fun _ _ => rfl)) (nomark _)))) pa_nil))))), fun xs m Z h => ?_⟩
  clear hr hu64 hu65 hu1
  change ARS K _ (List.map some xs ++ List.replicate (2 - xs.length) none) m _
  -- slots: 0=values 1=k
  obtain ⟨d, rfl, hp, q⟩ := h
  cases d with
  | list ds =>
    have hl : ds.length ≤ 100000 := hp
    have q2 : Z (.d (.bool (decide (ds.length ≠ 0) && (ds.all isNum && rsB (ds.map unI))))) m := q
    clear q
    ((with_reducible refine ars_seq ?_); (with_reducible refine ars_if ?_); (with_reducible refine art_or ?_); (with_reducible refine art_not ?_); (with_reducible refine art_tb ?_); (with_reducible refine ar_cb ?_); (with_reducible refine ara_cons ?_); (((with_reducible refine' ar_var ?hvz186 ?_); (case hvz186 => exact rfl))); (with_reducible refine ara_cons ?_); (with_reducible refine ar_ty ?_); (with_reducible refine ara_nil ?_); (((with_reducible refine' isi_d ?hvz187 ?_); (case hvz187 => exact rfl))); (refine ⟨_, rfl, ?_⟩); (((with_reducible refine' iteFd ?hvz188 ?_); (case hvz188 => decide +kernel))); (with_reducible refine art_or ?_); (with_reducible refine art_test ?_); (with_reducible refine ar_op ?_); (with_reducible refine ar_cb ?_); (with_reducible refine ara_cons ?_); (((with_reducible refine' ar_var ?hvz189 ?_); (case hvz189 => exact rfl))); (with_reducible refine ara_nil ?_); (with_reducible refine len_l ?_); (with_reducible refine ar_int ?_); (with_reducible refine eq_i ?_); (refine ⟨_, rfl, ?_⟩); (dsimp only))
    refine iteD (fun hc => ?_) (fun hc => ?_)
    · ((((with_reducible refine' iteTd ?hvz190 ?_); (case hvz190 => decide +kernel))); (with_reducible refine ars_ret ?_); (with_reducible refine ar_bl ?_); (dsimp only))
      rw [decide_eq_false (show ¬ ds.length ≠ 0 by omega), Bool.false_and] at q2
      exact rt_id q2
    ((with_reducible refine art_not ?_); (with_reducible refine art_tb ?_); (with_reducible refine ar_call ?_); (with_reducible refine ara_cons ?_); (((with_reducible refine' ar_var ?hvz191 ?_); (case hvz191 => exact rfl))); (with_reducible refine ara_nil ?_); (((with_reducible refine' lf_in ?hvz192 ?_); (case hvz192 => exact rfl))); (refine ⟨_, rfl, ?_⟩); (dsimp only))
    refine ⟨hl, ?_⟩
    rw [decide_eq_true (show ds.length ≠ 0 by omega), Bool.true_and] at q2
    cases hb : ds.all isNum with
    | false =>
      rw [hb, Bool.false_and] at q2
      ((refine ⟨_, rfl, ?_⟩); (((with_reducible refine' iteTd ?hvz193 ?_); (case hvz193 => decide +kernel))); (with_reducible refine ars_ret ?_); (with_reducible refine ar_bl ?_); (dsimp only))
      exact rt_id q2
    | true =>
      rw [hb, Bool.true_and] at q2
      have e := nums_of hb
      generalize ds.map unI = ns at e q2
      subst e
      rw [List.length_map] at hl hc
      ((refine ⟨_, rfl, ?_⟩); (((with_reducible refine' iteFd ?hvz194 ?_); (case hvz194 => decide +kernel))); (with_reducible refine ars_next ?_); (with_reducible refine ars_ret ?_); (with_reducible refine ar_cb ?_); (with_reducible refine ara_cons ?_); (with_reducible refine ar_lcDP ?_); (with_reducible refine ari_range1 ?_); (with_reducible refine ara_cons ?_); (with_reducible refine ar_op ?_); (with_reducible refine ar_cb ?_); (with_reducible refine ara_cons ?_); (((with_reducible refine' ar_var ?hvz195 ?_); (case hvz195 => exact rfl))); (with_reducible refine ara_nil ?_); (with_reducible refine len_l ?_); (with_reducible refine ar_int ?_); (with_reducible refine lo_i0 ?_); (with_reducible refine ara_nil ?_); (refine ⟨_, rfl, ?_⟩); (walk_at "s1"); (dsimp only))
      rw [List.length_map]
      rw [show (ns.length : Int) - 1 = ((ns.length - 1 : Nat) : Int) by omega]
      refine lc_map (List.range (ns.length - 1)) (fun (k : Nat) => S.d (.int (k : Nat))) rg0S (fun k => .bool (decide (ns.getD k 0 < ns.getD (k + 1) 0))) (by rw [List.length_range]; omega) True.intro (fun k hk => ?_) ?_
      · have hk := List.mem_range.mp hk
        have e1 := getD_of (d := 0) (show k < ns.length by omega)
        have e2 := getD_of (d := 0) (show k + 1 < ns.length by omega)
        ((with_reducible refine argw_name (by decide) ?_); (walk_at "s1"); (with_reducible refine ar_op ?_); (with_reducible refine ar_op ?_); (((with_reducible refine' ar_var ?hvz196 ?_); (case hvz196 => exact rfl))); (((with_reducible refine' ar_var ?hvz197 ?_); (case hvz197 => exact rfl))))
        refine ix_l (atm e1) ?_
        ((with_reducible refine ar_op ?_); (((with_reducible refine' ar_var ?hvz198 ?_); (case hvz198 => exact rfl))); (with_reducible refine ar_op ?_); (((with_reducible refine' ar_var ?hvz199 ?_); (case hvz199 => exact rfl))); (with_reducible refine ar_int ?_); (with_reducible refine plus_i ?_))
        rw [show (k : Int) + 1 = ((k + 1 : Nat) : Int) by omega]
        refine ix_l (atm e2) ?_
        ((with_reducible refine lo_b0 ?_); (walk_at "s1"); (dsimp only))
      ((with_reducible refine ara_nil ?_); (with_reducible refine all_m ?_))
      exact rt_id q2
  | _ =>
    walk_at "go"
    exact rt_id q)
def thB : PyData → Bool
  | .tuple [a, v] => naB a && vaB v
  | _ => false
def thP : PyData → Prop
  | .tuple [a, v] => naP a ∧ vaP v
  | _ => True
def f_is_thing : FS := fun xs m Z => ∃ d : PyData, xs = [.d d] ∧ thP d ∧ Z (.d (.bool (thB d))) m
theorem c_is_thing (B : Facts K mg) : Cal P w K mg base 4 1 "is_thing" f_is_thing := (by
  refine cal_dl B.t_is_thing sc_is_thing (fun f cdv A outer s H E hr => ?_)
  have hu64 := hr.units
  have hu65 : (A.deeper (envOfC "is_thing" (defScope s_is_thing) s.heap.objs.size f cdv)).units + 65 < cLine := by have := hr.un; omega
  have hu1 : (A.deeper (envOfC "is_thing" (defScope s_is_thing) s.heap.objs.size f cdv)).units + 1 < cLine := by have := hr.un; omega
  refine ⟨_, (pss_one (ps_ret (pe_and (pe_fK (K := K) rfl (c_is_tuple_of B) hr (by decide) (by rfl) (pa_cons (pv 0) (pa_cons pe_int pa_nil))) (pe_and (pe_fK (K := K) rfl (c_is_name B) hr (by decide) (by rfl) (pa_cons (pe_ix (ix_allK (K := K) rfl) (pv 0) pe_int (fun _ _ => rfl)) pa_nil)) (pe_one (pe_fK (K := K) rfl (c_are_values B) hr (by decide) (by rfl) (pa_cons (pe_ix (ix_allK (K := K) rfl) (pv 0) pe_int (fun _ _ => rfl)) pa_nil))))))), fun xs m Z h => ?_⟩
  clear hr hu64 hu65 hu1
  change ARS K _ (List.map some xs ++ List.replicate (1 - xs.length) none) m _
  -- slots: 0=thing
  obtain ⟨d, rfl, hp, q⟩ := h
  cases d with
  | tuple ds =>
    rcases ds with _ | ⟨a, _ | ⟨v, _ | ⟨x, r⟩⟩⟩
    · ((with_reducible refine ars_ret ?_); (with_reducible refine ar_andV ?_); (with_reducible refine ar_call ?_); (with_reducible refine ara_cons ?_); (((with_reducible refine' ar_var ?hvz200 ?_); (case hvz200 => exact rfl))); (with_reducible refine ara_cons ?_); (with_reducible refine ar_int ?_); (with_reducible refine ara_nil ?_); (((with_reducible refine' lf_in ?hvz201 ?_); (case hvz201 => exact rfl))); (refine ⟨_, rfl, ?_⟩); (refine ⟨_, rfl, ?_⟩); (((with_reducible refine' iteFd ?hvz202 ?_); (case hvz202 => decide +kernel))); (dsimp only))
      exact rt_id q
    · ((with_reducible refine ars_ret ?_); (with_reducible refine ar_andV ?_); (with_reducible refine ar_call ?_); (with_reducible refine ara_cons ?_); (((with_reducible refine' ar_var ?hvz203 ?_); (case hvz203 => exact rfl))); (with_reducible refine ara_cons ?_); (with_reducible refine ar_int ?_); (with_reducible refine ara_nil ?_); (((with_reducible refine' lf_in ?hvz204 ?_); (case hvz204 => exact rfl))); (refine ⟨_, rfl, ?_⟩); (refine ⟨_, rfl, ?_⟩); (dsimp only))
      exact rt_id q
    · obtain ⟨hp1, hp2⟩ : naP a ∧ vaP v := hp
      have q : Z (.d (.bool (naB a && vaB v))) m := q
      ((with_reducible refine ars_ret ?_); (with_reducible refine ar_andV ?_); (with_reducible refine ar_call ?_); (with_reducible refine ara_cons ?_); (((with_reducible refine' ar_var ?hvz205 ?_); (case hvz205 => exact rfl))); (with_reducible refine ara_cons ?_); (with_reducible refine ar_int ?_); (with_reducible refine ara_nil ?_); (((with_reducible refine' lf_in ?hvz206 ?_); (case hvz206 => exact rfl))); (refine ⟨_, rfl, ?_⟩); (refine ⟨_, rfl, ?_⟩); (dsimp only))
      refine iteTd rfl ?_
      ((with_reducible refine ar_andV ?_); (with_reducible refine ar_call ?_); (with_reducible refine ara_cons ?_); (with_reducible refine ar_op ?_); (((with_reducible refine' ar_var ?hvz207 ?_); (case hvz207 => exact rfl))); (with_reducible refine ar_int ?_); (((with_reducible refine' ix_t ?hvz208 ?_); (case hvz208 => exact rfl))); (with_reducible refine ara_nil ?_); (((with_reducible refine' lf_in ?hvz209 ?_); (case hvz209 => exact rfl))); (refine ⟨_, rfl, ?_⟩); (dsimp only))
      refine ⟨hp1, ?_⟩
      cases ha : naB a with
      | false =>
        rw [ha, Bool.false_and] at q
        ((refine ⟨_, rfl, ?_⟩); (with_reducible refine L2.iteF ?_))
        exact rt_id q
      | true =>
        rw [ha, Bool.true_and] at q
        ((refine ⟨_, rfl, ?_⟩); (((with_reducible refine' iteTd ?hvz210 ?_); (case hvz210 => decide +kernel))); (with_reducible refine ar_call ?_); (with_reducible refine ara_cons ?_); (with_reducible refine ar_op ?_); (((with_reducible refine' ar_var ?hvz211 ?_); (case hvz211 => exact rfl))); (with_reducible refine ar_int ?_); (((with_reducible refine' ix_t ?hvz212 ?_); (case hvz212 => exact rfl))); (with_reducible refine ara_nil ?_); (((with_reducible refine' lf_in ?hvz213 ?_); (case hvz213 => exact rfl))); (refine ⟨_, rfl, ?_⟩))
        exact ⟨hp2, rt_id q⟩
    · ((with_reducible refine ars_ret ?_); (with_reducible refine ar_andV ?_); (with_reducible refine ar_call ?_); (with_reducible refine ara_cons ?_); (((with_reducible refine' ar_var ?hvz214 ?_); (case hvz214 => exact rfl))); (with_reducible refine ara_cons ?_); (with_reducible refine ar_int ?_); (with_reducible refine ara_nil ?_); (((with_reducible refine' lf_in ?hvz215 ?_); (case hvz215 => exact rfl))); (refine ⟨_, rfl, ?_⟩); (refine ⟨_, rfl, ?_⟩); (dsimp only))
      rw [show tup2 (.tuple (a :: v :: x :: r)) = false from (show decide ((a :: v :: x :: r).length = 2) = false from decide_eq_false (by simp))]
      ((with_reducible refine L2.iteF ?_))
      exact rt_id q
  | _ =>
    walk_at "go"
    exact rt_id q)
theorem rsB_of {ns : List Int} (h : ns.Pairwise (· < ·)) : rsB ns = true := List.all_eq_true.mpr fun k hk => by
  have hk := List.mem_range.mp hk
  have e1 : ns.getD k 0 = ns[k]'(by omega) := by rw [List.getD_eq_getElem?_getD, List.getElem?_eq_getElem (by omega)]; rfl
  have e2 : ns.getD (k + 1) 0 = ns[k + 1]'(by omega) := by rw [List.getD_eq_getElem?_getD, List.getElem?_eq_getElem (by omega)]; rfl
  rw [e1, e2]
  exact decide_eq_true (List.pairwise_iff_getElem.mp h k (k + 1) (by omega) (by omega) (by omega))
theorem isNum_map {ns : List Int} : (ns.map PyData.int).all isNum = true := by rw [List.all_map]; exact List.all_eq_true.mpr fun _ _ => rfl
theorem unI_map {ns : List Int} : (ns.map PyData.int).map unI = ns := by rw [List.map_map]; exact List.map_id' ns
theorem naB_of {s : Str} (h : NameOk s) : naB (.str s) = true := (by
  show (decide (1 ≤ s.length) && (decide (s.length ≤ 8) && s.cps.toList.all fun c => decide (c ∈ abcS.cps.toList))) = true
  rw [decide_eq_true h.1, decide_eq_true h.2.1, Bool.true_and, Bool.true_and]
  exact List.all_eq_true.mpr fun c hc => decide_eq_true (h.2.2 c hc))
theorem vaB_of {ns : List Int} (h1 : 1 ≤ ns.length) (h : ns.Pairwise (· < ·)) : vaB (dI ns) = true := (by
  show (decide ((ns.map PyData.int).length ≠ 0) && ((ns.map PyData.int).all isNum && rsB ((ns.map PyData.int).map unI))) = true
  rw [isNum_map, unI_map, rsB_of h, decide_eq_true (by rw [List.length_map]; omega)]
  rfl)
theorem thB_of {t : Th} (h : ThOk t) (h2 : ThV t) : thB (dTh t) = true := (by
  show (naB (.str t.1) && vaB (dI t.2)) = true
  rw [naB_of h2.1, vaB_of h.1 h2.2]; rfl)
theorem thP_of {t : Th} (h : ThOk t) (h2 : ThV t) : thP (dTh t) := (by
  refine ⟨show t.1.length ≤ 100000 by have := h2.1.2.1; omega, ?_⟩
  show (t.2.map PyData.int).length ≤ 100000
  have := h.2
  rw [List.length_map]; omega)
theorem sm_t2 {k : Nat} {a b : PyData} (h1 : Sm k a) (h2 : Sm k b) : Sm (k + 1) (.tuple [a, b]) := ⟨by simp, by simpa using ⟨h1, h2⟩⟩
theorem sm_s {k : Nat} {x : Str} : Sm k (.str x) := by cases k <;> exact True.intro
/-! copies of data: own_copy -/
def f_own_copy (k : Nat) : FS := fun xs m Z => ∃ (d : PyData), xs = [.d d] ∧ Sm k d ∧ Z (.d d) m
theorem st_own_copy (B : Facts K mg) (k : Nat) (R : Cal P w K mg base k 1 "own_copy" (fun xs m Z => ∃ j, j < k ∧ f_own_copy j xs m Z)) : Cal P w K mg base (k + 1) 1 "own_copy" (f_own_copy k) := (by
  refine cal_dl B.t_own_copy sc_own_copy (fun f cdv A outer s H E hr => ?_)
  have hu64 := hr.units
  have hu65 : (A.deeper (envOfC "own_copy" (defScope s_own_copy) s.heap.objs.size f cdv)).units + 65 < cLine := by have := hr.un; omega
  have hu1 : (A.deeper (envOfC "own_copy" (defScope s_own_copy) s.heap.objs.size f cdv)).units + 1 < cLine := by have := hr.un; omega
  refine ⟨_, (pss_cons (ps_if (pt_val (pe_callB (call_isiK' (K := K) rfl) (by rfl) B.m_isinstance (by decide +kernel) (pa_cons (pv 0) (pa_cons (pe_bltn (v := .ty "list") (by rfl) B.m_list (by decide +kernel) rfl) pa_nil)))) (pss_one (ps_ret (pe_lc (own := [("one", 1)]) rfl sc_own_copy.nd (pi_listK (K := K) rfl (pv 0)) (blkOk_by (N := N_own_copy) (by first | (show blkC _ (defScope s_own_copy) _ _ = true; decide +kernel) | (show blkC _ (relS _ (defScope s_own_copy)) _ _ = true; decide +kernel) | (show blkC _ (relS _ (relS _ (defScope s_own_copy))) _ _ = true; decide +kernel))) (fun _ _ _ _ _ => (pg_name (i := 1) sc_own_copy.nd rfl (by first | exact Or.inl rfl | exact Or.inr rfl))) (fun _ _ _ _ _ => pts_nil) (fun _ _ _ _ _ => (pe_fK (K := K) rfl R hr (Nat.le_refl _) (by rfl) (pa_cons (pv 1) pa_nil)))))) pss_nil) (pss_cons (ps_if (pt_val (pe_callB (call_isiK' (K := K) rfl) (by rfl) B.m_isinstance (by decide +kernel) (pa_cons (pv 0) (pa_cons (pe_bltn (v := .ty "tuple") (by rfl) B.m_tuple (by decide +kernel) rfl) pa_nil)))) (pss_one (ps_ret (pe_callTy (cr_tupOfK (K := K) rfl) (by rfl) B.m_tuple (by decide +kernel) (pa_cons (pe_lc (own := [("one", 1)]) rfl sc_own_copy.nd (pi_tupK (K := K) rfl (pv 0)) (blkOk_by (N := N_own_copy) (by first | (show blkC _ (defScope s_own_copy) _ _ = true; decide +kernel) | (show blkC _ (relS _ (defScope s_own_copy)) _ _ = true; decide +kernel) | (show blkC _ (relS _ (relS _ (defScope s_own_copy))) _ _ = true; decide +kernel))) (fun _ _ _ _ _ => (pg_name (i := 1) sc_own_copy.nd rfl (by first | exact Or.inl rfl | exact Or.inr rfl))) (fun _ _ _ _ _ => pts_nil) (fun _ _ _ _ _ => (pe_fK (K := K) rfl R hr (Nat.le_refl _) (by rfl) (pa_cons (pv 1) pa_nil)))) pa_nil)))) pss_nil) (pss_one (ps_ret (pv 0))))), fun xs m Z h => ?_⟩
  clear hr hu64 hu65 hu1
  change ARS K _ (List.map some xs ++ List.replicate (2 - xs.length) none) m _
  -- slots: 0=part 1=one
  obtain ⟨d, rfl, hs, q⟩ := h
  cases k with
  | zero =>
    cases d with
    | list ds => exact hs.elim
    | tuple ds => exact hs.elim
    | dict ds => exact hs.elim
    | _ =>
      walk_at "go"
      exact rt_id q
  | succ k =>
    cases d with
    | list ds =>
      have hl := hs.1
      ((with_reducible refine ars_seq ?_); (with_reducible refine ars_if ?_); (with_reducible refine art_tb ?_); (with_reducible refine ar_cb ?_); (with_reducible refine ara_cons ?_); (((with_reducible refine' ar_var ?hvz216 ?_); (case hvz216 => exact rfl))); (with_reducible refine ara_cons ?_); (with_reducible refine ar_ty ?_); (with_reducible refine ara_nil ?_); (((with_reducible refine' isi_d ?hvz217 ?_); (case hvz217 => exact rfl))); (refine ⟨_, rfl, ?_⟩); (((with_reducible refine' iteTd ?hvz218 ?_); (case hvz218 => decide +kernel))); (with_reducible refine ars_ret ?_); (with_reducible refine ar_lcDP ?_); (with_reducible refine ari_list ?_); (((with_reducible refine' ar_var ?hvz219 ?_); (case hvz219 => exact rfl))); (with_reducible refine itl_d ?_); (dsimp only))
      refine lc_map ds (fun d => .d d) rfl (fun d => d) (by omega) True.intro (fun x hx => ?_) ?_
      · ((with_reducible refine argw_name (by decide) ?_); (walk_at "s1"); (with_reducible refine ar_call ?_); (with_reducible refine ara_cons ?_); (((with_reducible refine' ar_var ?hvz220 ?_); (case hvz220 => exact rfl))); (with_reducible refine ara_nil ?_); (((with_reducible refine' lf_in ?hvz221 ?_); (case hvz221 => exact rfl))))
        refine ⟨k, Nat.lt_succ_self k, x, rfl, hs.2 x hx, ?_⟩
        exact ⟨rfl, rfl⟩
      rw [List.map_id']
      exact rt_id q
    | tuple ds =>
      have hl := hs.1
      ((with_reducible refine ars_seq ?_); (with_reducible refine ars_if ?_); (with_reducible refine art_tb ?_); (with_reducible refine ar_cb ?_); (with_reducible refine ara_cons ?_); (((with_reducible refine' ar_var ?hvz222 ?_); (case hvz222 => exact rfl))); (with_reducible refine ara_cons ?_); (with_reducible refine ar_ty ?_); (with_reducible refine ara_nil ?_); (((with_reducible refine' isi_d ?hvz223 ?_); (case hvz223 => exact rfl))); (refine ⟨_, rfl, ?_⟩); (((with_reducible refine' iteFd ?hvz224 ?_); (case hvz224 => decide +kernel))); (with_reducible refine ars_next ?_); (with_reducible refine ars_seq ?_); (with_reducible refine ars_if ?_); (with_reducible refine art_tb ?_); (with_reducible refine ar_cb ?_); (with_reducible refine ara_cons ?_); (((with_reducible refine' ar_var ?hvz225 ?_); (case hvz225 => exact rfl))); (with_reducible refine ara_cons ?_); (with_reducible refine ar_ty ?_); (with_reducible refine ara_nil ?_); (((with_reducible refine' isi_d ?hvz226 ?_); (case hvz226 => exact rfl))); (refine ⟨_, rfl, ?_⟩); (((with_reducible refine' iteTd ?hvz227 ?_); (case hvz227 => decide +kernel))); (with_reducible refine ars_ret ?_); (with_reducible refine ar_cb ?_); (with_reducible refine ara_cons ?_); (with_reducible refine ar_lcDP ?_); (dsimp only))
      refine ari_tup ?_
      ((((with_reducible refine' ar_var ?hvz228 ?_); (case hvz228 => exact rfl))); (refine ⟨_, rfl, ?_⟩))
      refine lc_map ds (fun d => .d d) rfl (fun d => d) (by omega) True.intro (fun x hx => ?_) ?_
      · ((with_reducible refine argw_name (by decide) ?_); (walk_at "s1"); (with_reducible refine ar_call ?_); (with_reducible refine ara_cons ?_); (((with_reducible refine' ar_var ?hvz229 ?_); (case hvz229 => exact rfl))); (with_reducible refine ara_nil ?_); (((with_reducible refine' lf_in ?hvz230 ?_); (case hvz230 => exact rfl))))
        refine ⟨k, Nat.lt_succ_self k, x, rfl, hs.2 x hx, ?_⟩
        exact ⟨rfl, rfl⟩
      rw [List.map_id']
      ((with_reducible refine ara_nil ?_); (with_reducible refine tup_l ?_))
      exact rt_id q
    | dict ds => exact hs.elim
    | _ =>
      walk_at "go"
      exact rt_id q)
theorem mono_own_copy {j k : Nat} (hj : j ≤ k) {xs : List S} {m : Mem} {Z : S → Mem → Prop} (h : f_own_copy j xs m Z) : f_own_copy k xs m Z := (by
  obtain ⟨d, h0, h1, h2⟩ := h
  exact ⟨d, h0, sm_mono h1 hj, h2⟩)
theorem c_own_copy (B : Facts K mg) : ∀ k, Cal P w K mg base (1 + k) 1 "own_copy" (f_own_copy k)
  | 0 => st_own_copy B 0 (cal_imp (cal_none B.t_own_copy) fun xs m Z ⟨j, h, _⟩ => absurd h (Nat.not_lt_zero j))
  | k + 1 => by
    have h := c_own_copy B k
    have h2 := st_own_copy B (k + 1) (cal_mono (cal_imp h fun xs m Z ⟨j, h, hf⟩ => mono_own_copy (Nat.le_of_lt_succ h) hf) (by omega))
    exact cal_mono h2 (by omega)
/-! copies of data: _law_copy -/
def f__law_copy (k : Nat) : FS := fun xs m Z => ∃ (d : PyData), xs = [.d d] ∧ Sm k d ∧ (Z (.d d) m ∨ ∃ ds, d = .list ds ∧ ∀ p, m p = none → Z (.r p) (mset m p (.lst (ds.map S.d))))
theorem st__law_copy (B : Facts K mg) (k : Nat) (R : Cal P w K mg base k 1 "_law_copy" (fun xs m Z => ∃ j, j < k ∧ f__law_copy j xs m Z)) : Cal P w K mg base (k + 1) 1 "_law_copy" (f__law_copy k) := (by
  refine cal_dl B.t__law_copy sc__law_copy (fun f cdv A outer s H E hr => ?_)
  have hu64 := hr.units
  have hu65 : (A.deeper (envOfC "_law_copy" (defScope s__law_copy) s.heap.objs.size f cdv)).units + 65 < cLine := by have := hr.un; omega
  have hu1 : (A.deeper (envOfC "_law_copy" (defScope s__law_copy) s.heap.objs.size f cdv)).units + 1 < cLine := by have := hr.un; omega
  refine ⟨_, (pss_cons (ps_if (pt_val (pe_callB (call_isiK' (K := K) rfl) (by rfl) B.m_isinstance (by decide +kernel) (pa_cons (pv 0) (pa_cons (pe_bltn (v := .ty "list") (by rfl) B.m_list (by decide +kernel) rfl) pa_nil)))) (pss_one (ps_ret (pe_own (pe_lc (own := [("_law_one", 1)]) rfl sc__law_copy.nd (pi_listK (K := K) rfl (pv 0)) (blkOk_by (N := N__law_copy) (by first | (show blkC _ (defScope s__law_copy) _ _ = true; decide +kernel) | (show blkC _ (relS _ (defScope s__law_copy)) _ _ = true; decide +kernel) | (show blkC _ (relS _ (relS _ (defScope s__law_copy))) _ _ = true; decide +kernel))) (fun _ _ _ _ _ => (pg_name (i := 1) sc__law_copy.nd rfl (by first | exact Or.inl rfl | exact Or.inr rfl))) (fun _ _ _ _ _ => pts_nil) (fun _ _ _ _ _ => (pe_fK (K := K) rfl R hr (Nat.le_refl _) (by rfl) (pa_cons (pv 1) pa_nil))))))) pss_nil) (pss_cons (ps_if (pt_val (pe_callB (call_isiK' (K := K) rfl) (by rfl) B.m_isinstance (by decide +kernel) (pa_cons (pv 0) (pa_cons (pe_bltn (v := .ty "tuple") (by rfl) B.m_tuple (by decide +kernel) rfl) pa_nil)))) (pss_one (ps_ret (pe_callTy (cr_tupOfK (K := K) rfl) (by rfl) B.m_tuple (by decide +kernel) (pa_cons (pe_lc (own := [("_law_one", 1)]) rfl sc__law_copy.nd (pi_tupK (K := K) rfl (pv 0)) (blkOk_by (N := N__law_copy) (by first | (show blkC _ (defScope s__law_copy) _ _ = true; decide +kernel) | (show blkC _ (relS _ (defScope s__law_copy)) _ _ = true; decide +kernel) | (show blkC _ (relS _ (relS _ (defScope s__law_copy))) _ _ = true; decide +kernel))) (fun _ _ _ _ _ => (pg_name (i := 1) sc__law_copy.nd rfl (by first | exact Or.inl rfl | exact Or.inr rfl))) (fun _ _ _ _ _ => pts_nil) (fun _ _ _ _ _ => (pe_fK (K := K) rfl R hr (Nat.le_refl _) (by rfl) (pa_cons (pv 1) pa_nil)))) pa_nil)))) pss_nil) (pss_one (ps_ret (pv 0))))), fun xs m Z h => ?_⟩
  clear hr hu64 hu65 hu1
  change ARS K _ (List.map some xs ++ List.replicate (2 - xs.length) none) m _
  -- slots: 0=_law_part 1=_law_one
  obtain ⟨d, rfl, hs, q⟩ := h
  cases k with
  | zero =>
    cases d with
    | list ds => exact hs.elim
    | tuple ds => exact hs.elim
    | dict ds => exact hs.elim
    | _ =>
      rcases q with q | ⟨ds, e, q⟩
      case inr => cases e
      walk_at "go"
      exact rt_id q
  | succ k =>
    cases d with
    | list ds =>
      have hl := hs.1
      ((with_reducible refine ars_seq ?_); (with_reducible refine ars_if ?_); (with_reducible refine art_tb ?_); (with_reducible refine ar_cb ?_); (with_reducible refine ara_cons ?_); (((with_reducible refine' ar_var ?hvz231 ?_); (case hvz231 => exact rfl))); (with_reducible refine ara_cons ?_); (with_reducible refine ar_ty ?_); (with_reducible refine ara_nil ?_); (((with_reducible refine' isi_d ?hvz232 ?_); (case hvz232 => exact rfl))); (refine ⟨_, rfl, ?_⟩); (((with_reducible refine' iteTd ?hvz233 ?_); (case hvz233 => decide +kernel))); (with_reducible refine ars_ret ?_); (((with_reducible refine ar_lcO ?_))); (with_reducible refine ari_list ?_); (((with_reducible refine' ar_var ?hvz234 ?_); (case hvz234 => exact rfl))); (with_reducible refine itl_d ?_); (dsimp only))
      refine lc_map ds (fun d => .d d) rfl (fun d => d) (by omega) True.intro (fun x hx => ?_) ?_
      · ((with_reducible refine argw_name (by decide) ?_); (walk_at "s1"); (with_reducible refine ar_call ?_); (with_reducible refine ara_cons ?_); (((with_reducible refine' ar_var ?hvz235 ?_); (case hvz235 => exact rfl))); (with_reducible refine ara_nil ?_); (((with_reducible refine' lf_in ?hvz236 ?_); (case hvz236 => exact rfl))))
        refine ⟨k, Nat.lt_succ_self k, x, rfl, hs.2 x hx, .inl ?_⟩
        exact ⟨rfl, rfl⟩
      rw [List.map_id']
      refine ⟨_, rfl, fun p hp => ?_⟩
      rcases q with q | ⟨ds', e, q⟩
      · exact rt_fz mset_same (Le.set hp) hp q
      · cases e
        exact rt_id (q p hp)
    | tuple ds =>
      rcases q with q | ⟨ds', e, q⟩
      case inr => cases e
      have hl := hs.1
      ((with_reducible refine ars_seq ?_); (with_reducible refine ars_if ?_); (with_reducible refine art_tb ?_); (with_reducible refine ar_cb ?_); (with_reducible refine ara_cons ?_); (((with_reducible refine' ar_var ?hvz237 ?_); (case hvz237 => exact rfl))); (with_reducible refine ara_cons ?_); (with_reducible refine ar_ty ?_); (with_reducible refine ara_nil ?_); (((with_reducible refine' isi_d ?hvz238 ?_); (case hvz238 => exact rfl))); (refine ⟨_, rfl, ?_⟩); (((with_reducible refine' iteFd ?hvz239 ?_); (case hvz239 => decide +kernel))); (with_reducible refine ars_next ?_); (with_reducible refine ars_seq ?_); (with_reducible refine ars_if ?_); (with_reducible refine art_tb ?_); (with_reducible refine ar_cb ?_); (with_reducible refine ara_cons ?_); (((with_reducible refine' ar_var ?hvz240 ?_); (case hvz240 => exact rfl))); (with_reducible refine ara_cons ?_); (with_reducible refine ar_ty ?_); (with_reducible refine ara_nil ?_); (((with_reducible refine' isi_d ?hvz241 ?_); (case hvz241 => exact rfl))); (refine ⟨_, rfl, ?_⟩); (((with_reducible refine' iteTd ?hvz242 ?_); (case hvz242 => decide +kernel))); (with_reducible refine ars_ret ?_); (with_reducible refine ar_cb ?_); (with_reducible refine ara_cons ?_); (with_reducible refine ar_lcDP ?_); (dsimp only))
      refine ari_tup ?_
      ((((with_reducible refine' ar_var ?hvz243 ?_); (case hvz243 => exact rfl))); (refine ⟨_, rfl, ?_⟩))
      refine lc_map ds (fun d => .d d) rfl (fun d => d) (by omega) True.intro (fun x hx => ?_) ?_
      · ((with_reducible refine argw_name (by decide) ?_); (walk_at "s1"); (with_reducible refine ar_call ?_); (with_reducible refine ara_cons ?_); (((with_reducible refine' ar_var ?hvz244 ?_); (case hvz244 => exact rfl))); (with_reducible refine ara_nil ?_); (((with_reducible refine' lf_in ?hvz245 ?_); (case hvz245 => exact rfl))))
        refine ⟨k, Nat.lt_succ_self k, x, rfl, hs.2 x hx, .inl ?_⟩
        exact ⟨rfl, rfl⟩
      rw [List.map_id']
      ((with_reducible refine ara_nil ?_); (with_reducible refine tup_l ?_))
      exact rt_id q
    | dict ds => exact hs.elim
    | _ =>
      rcases q with q | ⟨ds, e, q⟩
      case inr => cases e
      walk_at "go"
      exact rt_id q)
theorem mono__law_copy {j k : Nat} (hj : j ≤ k) {xs : List S} {m : Mem} {Z : S → Mem → Prop} (h : f__law_copy j xs m Z) : f__law_copy k xs m Z := (by
  obtain ⟨d, h0, h1, h2⟩ := h
  exact ⟨d, h0, sm_mono h1 hj, h2⟩)
theorem c__law_copy (B : Facts K mg) : ∀ k, Cal P w K mg base (1 + k) 1 "_law_copy" (f__law_copy k)
  | 0 => st__law_copy B 0 (cal_imp (cal_none B.t__law_copy) fun xs m Z ⟨j, h, _⟩ => absurd h (Nat.not_lt_zero j))
  | k + 1 => by
    have h := c__law_copy B k
    have h2 := st__law_copy B (k + 1) (cal_mono (cal_imp h fun xs m Z ⟨j, h, hf⟩ => mono__law_copy (Nat.le_of_lt_succ h) hf) (by omega))
    exact cal_mono h2 (by omega)
theorem c_is_rule (B : Facts K mg) : Cal P w K mg base 0 2 "is_rule" (fun _ _ _ => False) := cal_none B.t_is_rule
theorem cx_BadThing (B : Facts K mg) : CalXI P w K mg base 1 (clsOf mg "BadThing") "place" :=
  calxi_dl (z := "a thing that is none") B.tx_BadThing sc_BadThing___init__ fun fI cdv A outer s H E => pss_cons (ps_expr (pe_xinit (by rfl) B.bx_ChoiceError (pa_cons (pv 0) (pa_cons pe_str pa_nil)))) (pss_one (ps_ost (pv 0) (pv 1)))
theorem cx_BadRule (B : Facts K mg) : CalXI P w K mg base 1 (clsOf mg "BadRule") "place" :=
  calxi_dl (z := "a rule that is none") B.tx_BadRule sc_BadRule___init__ fun fI cdv A outer s H E => pss_cons (ps_expr (pe_xinit (by rfl) B.bx_ChoiceError (pa_cons (pv 0) (pa_cons pe_str pa_nil)))) (pss_one (ps_ost (pv 0) (pv 1)))
theorem sm_dThs {ts : List Th} (hl : ts.length ≤ 1000) (h : ∀ t ∈ ts, ThOk t) : Sm 3 (dThs ts) := sm_map (by omega) fun t ht => sm_t2 (k := 1) sm_s (sm_dI (by have := (h t ht).2; omega))
/-- good things; a thing that is none behind them -/
structure Gd (ts : List Th) : Prop where
  ok : ∀ t ∈ ts, ThOk t
  v : ∀ t ∈ ts, ThV t
  nd : (ts.map (·.1)).Nodup
def Bad (ts : List Th) (d : PyData) : Prop := (thP d ∧ thB d = false) ∨ ∃ t, d = dTh t ∧ ThOk t ∧ ThV t ∧ t.1 ∈ ts.map (·.1)
def f_init (C CT : Addr) : FSX := fun xs m Z Y => ∃ (p dx : Addr) (ts : List Th) (rest : List PyData) (rs : PyData), xs = [.r p, .d (.list (ts.map dTh ++ rest)), .d rs] ∧ m p = some (.ins C dx []) ∧ ts.length + rest.length ≤ 1000 ∧ Gd ts ∧
  ((rest = [] ∧ rs = .list [] ∧ Z (.d .none) (mset m p (.ins C dx [("things", .d (dThs ts)), ("rules", .d (.list []))]))) ∨ ∃ d post m2, rest = d :: post ∧ Bad ts d ∧ Le m2 m ∧ Y CT [(("place" : Str), PyData.int (ts.length : Nat))] m2)
theorem zip_at {α : Type} {xs : List α} {pre post : List (α × Nat)} {z : α × Nat} (h : xs.zipIdx = pre ++ z :: post) : z.2 = pre.length ∧ xs[pre.length]? = some z.1 := (by
  have e : xs.zipIdx[pre.length]? = some z := by rw [h, List.getElem?_append_right (Nat.le_refl _)]; simp
  rw [List.getElem?_zipIdx] at e
  cases hx : xs[pre.length]? with
  | none => rw [hx] at e; cases e
  | some y => rw [hx] at e; cases e; exact ⟨by simp, rfl⟩)
set_option maxHeartbeats 4000000 in
theorem c_Choosing___init__ (B : Facts K mg) : CalIX P w K mg base 9 3 (clsOf mg "Choosing") (f_init (clsOf mg "Choosing") (clsOf mg "BadThing")) := (by
  refine calix_dl B.t_Choosing___init__ sc_Choosing___init__ (fun f cdv A outer s H E hr => ?_)
  have hu64 := hr.units
  have hu65 : (A.deeper (envOfC "Choosing.__init__" (defScope s_Choosing___init__) s.heap.objs.size f cdv)).units + 65 < cLine := by have := hr.un; omega
  have hu1 : (A.deeper (envOfC "Choosing.__init__" (defScope s_Choosing___init__) s.heap.objs.size f cdv)).units + 1 < cLine := by have := hr.un; omega
  refine ⟨_, (pss_cons (ps_set (i := 3) sc_Choosing___init__.nd rfl (by first | exact Or.inl rfl | exact Or.inr rfl) (pe_own (pe_lst pa_nil))) (pss_cons (ps_for (passes_of rfl) rfl (pi_enumK (K := K) rfl (by rfl) B.m_enumerate (pa_cons (pv 1) pa_nil)) (pg_tupK (n := 2) (K := K) rfl rfl (pgs_cons (pg_name (i := 4) sc_Choosing___init__.nd rfl (by first | exact Or.inl rfl | exact Or.inr rfl)) (pgs_cons (pg_name (i := 5) sc_Choosing___init__.nd rfl (by first | exact Or.inl rfl | exact Or.inr rfl)) pgs_nil))) (pss_cons (ps_if ((pw_or (pt_not (pt_val (pe_fK (K := K) rfl (c_is_thing B) hr (by decide) (by rfl) (pa_cons (pv 5) pa_nil)))) (pw_or1 (pt_cmpR (op_INSK (K := K) rfl hu65) (pe_ix (ix_allK (K := K) rfl) (pv 5) pe_int (fun _ _ => rfl)) (pv 3) (by rfl))))).pt (pss_one (ps_rzK (K := K) rfl rfl (takes_of rfl rfl rfl rfl) (cx_BadThing B) hr (by decide) (by rfl) B.g_BadThing (pv 4))) pss_nil) (pss_one (ps_expr (pe_bmK (K := K) rfl PySem.F.plainAttrs_list PySem.F.slot_list_append PySem.F.type_list_append mt_append (pv 3) (pa_cons (pe_ix (ix_allK (K := K) rfl) (pv 5) pe_int (fun _ _ => rfl)) pa_nil)))))) (pss_cons (ps_for (passes_of rfl) rfl (pi_enumK (K := K) rfl (by rfl) B.m_enumerate (pa_cons (pv 2) pa_nil)) (pg_tupK (n := 2) (K := K) rfl rfl (pgs_cons (pg_name (i := 4) sc_Choosing___init__.nd rfl (by first | exact Or.inl rfl | exact Or.inr rfl)) (pgs_cons (pg_name (i := 6) sc_Choosing___init__.nd rfl (by first | exact Or.inl rfl | exact Or.inr rfl)) pgs_nil))) (pss_one (ps_if (pt_not (pt_val (pe_fK (K := K) rfl (c_is_rule B) hr (by decide) (by rfl) (pa_cons (pv 6) (pa_cons (pe_callB (cr_lenK (K := K) rfl) (by rfl) B.m_len (by decide +kernel) (pa_cons (pv 1) pa_nil)) pa_nil))))) (pss_one (ps_rzK (K := K) rfl rfl (takes_of rfl rfl rfl rfl) (cx_BadRule B) hr (by decide) (by rfl) B.g_BadRule (pv 4))) pss_nil))) (pss_cons (ps_fldK (K := K) rfl (pv 0) (pe_fK (K := K) rfl (c_own_copy B 3) hr (by decide) (by rfl) (pa_cons (pe_callTy (cr_listOfK (K := K) rfl) (by rfl) B.m_list (by decide +kernel) (pa_cons (pv 1) pa_nil)) pa_nil)) rfl) (pss_one (ps_fldK (K := K) rfl (pv 0) (pe_fK (K := K) rfl (c_own_copy B 3) hr (by decide) (by rfl) (pa_cons (pe_callTy (cr_listOfK (K := K) rfl) (by rfl) B.m_list (by decide +kernel) (pa_cons (pv 2) pa_nil)) pa_nil)) rfl)))))), fun PP xs m Z Y hP hW h => ?_⟩
  clear hr hu64 hu65 hu1
  have hcl_Choosing := B.cl_Choosing
  have hna_Choosing_rules := B.na_Choosing_rules
  have hna_Choosing_things := B.na_Choosing_things
  change ARSp PP K _ (List.map some xs ++ List.replicate (7 - xs.length) none) m _
  -- slots: 0=self 1=things 2=rules 3=names 4=place 5=thing 6=rule
  obtain ⟨p, dx, ts, rest, rs, rfl, hm, hsz, hg, hc⟩ := h
  refine arsp_s hP ?_
  ((with_reducible refine ars_asg ?_); (with_reducible refine ar_nilO ?_); (dsimp only))
  intro p1 hp1
  have ne1 : p ≠ p1 := ne_mem hm hp1
  ((with_reducible refine arg_name ?_))
  refine arsp_seq hP (arsp_for hP ?_)
  ((with_reducible refine ari_enum ?_); (with_reducible refine ara_cons ?_); (((with_reducible refine' ar_var ?hvz246 ?_); (case hvz246 => exact rfl))); (with_reducible refine ara_nil ?_); (refine ⟨_, rfl, ?_⟩); (dsimp only))
  have hzl : (ts.map dTh ++ rest).zipIdx.length = (ts.map dTh ++ rest).length := List.length_zipIdx
  refine forp_pre (ts.map dTh ++ rest).zipIdx (fun z => .d (.tuple [.int (z.2 : Nat), z.1])) (by have := enS_map (f := id) (xs := ts.map dTh ++ rest); simpa using this) (fun pre Γ' m' => ∃ (nl : List Str) (o4 o5 o6 : Option S), pre.length ≤ ts.length ∧ nl = (ts.take pre.length).map (·.1) ∧ Γ' = [some (.r p), some (.d (.list (ts.map dTh ++ rest))), some (.d rs), some (.r p1), o4, o5, o6] ∧ m' = mset m p1 (.lst (nl.map fun s => S.d (.str s)))) (fun _ _ _ _ => True.intro) ⟨[], _, _, _, Nat.zero_le _, rfl, rfl, rfl⟩ (fun pre z post Γ' m' he h => ?_) (fun Γ' m' h => ?_)
  · obtain ⟨nl, o4, o5, o6, hle, hnl, rfl, rfl⟩ := h
    have hnl2 : nl.length ≤ ts.length := by rw [hnl, List.length_map, List.length_take]; omega
    obtain ⟨hz2, hz1⟩ := zip_at he
    obtain ⟨zd, zk⟩ := z
    cases (show zk = pre.length from hz2)
    have hz1 : (ts.map dTh ++ rest)[pre.length]? = some zd := hz1
    ((((with_reducible refine' arg_tup ?hvz247 ?_); (case hvz247 => exact rfl); dsimp only [List.map])); (with_reducible refine args_cons ?_); (with_reducible refine arg_name ?_); (with_reducible refine args_cons ?_); (with_reducible refine arg_name ?_); (with_reducible refine args_nil ?_))
    refine arsp_seq hP (arsp_if hP ?_)
    by_cases hlt : pre.length < ts.length
    · have e1 := List.getElem?_eq_getElem hlt
      rw [List.getElem?_append_left (by rw [List.length_map]; exact hlt), List.getElem?_map, e1] at hz1
      cases hz1
      have hmem := List.getElem_mem hlt
      have hno : ts[pre.length].1 ∉ nl := by
        rw [hnl]
        have hnd := hg.nd
        rw [take_pre e1, List.map_append, List.map_cons] at hnd
        intro hin
        exact (List.nodup_append.mp hnd).2.2 _ hin _ List.mem_cons_self rfl
      ((with_reducible refine art_or ?_); (with_reducible refine art_not ?_); (with_reducible refine art_tb ?_); (with_reducible refine ar_call ?_); (with_reducible refine ara_cons ?_); (((with_reducible refine' ar_var ?hvz248 ?_); (case hvz248 => exact rfl))); (with_reducible refine ara_nil ?_); (((with_reducible refine' lf_in ?hvz249 ?_); (case hvz249 => exact rfl))); (refine ⟨_, rfl, ?_⟩); (dsimp only))
      refine ⟨thP_of (hg.ok _ hmem) (hg.v _ hmem), ?_⟩
      rw [thB_of (hg.ok _ hmem) (hg.v _ hmem)]
      ((refine ⟨_, rfl, ?_⟩); (((with_reducible refine' iteFd ?hvz250 ?_); (case hvz250 => decide +kernel))); (with_reducible refine art_test ?_); (with_reducible refine ar_op ?_); (with_reducible refine ar_op ?_); (((with_reducible refine' ar_var ?hvz251 ?_); (case hvz251 => exact rfl))); (with_reducible refine ar_int ?_); (((with_reducible refine' ix_t ?hvz252 ?_); (case hvz252 => exact rfl))); (((with_reducible refine' ar_var ?hvz253 ?_); (case hvz253 => exact rfl))))
      refine in_so mset_same ?_
      ((refine ⟨_, rfl, ?_⟩))
      rw [decide_eq_false hno]
      ((with_reducible refine L2.iteF ?_))
      refine arsp_of ?_
      ((with_reducible refine ars_next ?_); (dsimp only))
      refine arsp_of ?_
      ((with_reducible refine ars_drop ?_); (with_reducible refine ar_bm ?_); (((with_reducible refine' ar_var ?hvz254 ?_); (case hvz254 => exact rfl))); (walk_at "s1"); (with_reducible refine ara_cons ?_); (with_reducible refine ar_op ?_); (((with_reducible refine' ar_var ?hvz255 ?_); (case hvz255 => exact rfl))); (with_reducible refine ar_int ?_); (((with_reducible refine' ix_t ?hvz256 ?_); (case hvz256 => exact rfl))); (with_reducible refine ara_nil ?_); (((with_reducible refine' app_o ?hmz257 ?hvz258 ?_); (case hmz257 => walk_at "mem"); (case hvz258 => first | (simp only [List.length_map, List.length_cons, List.length_nil, List.length_append]; omega) | omega | (simp only [List.length_map, List.length_cons, List.length_nil, List.length_append, List.length_range]; omega)))); (rw [mset_mset]); (dsimp only))
      exact ⟨nl ++ [ts[pre.length].1], _, _, _, by rw [List.length_append]; simp; omega, by rw [List.length_append, List.length_singleton, take_snoc e1, List.map_append, hnl]; rfl, rfl, by rw [List.map_append]; rfl⟩
    · have hpl : pre.length = ts.length := by omega
      rw [hpl, List.getElem?_append_right (by rw [List.length_map]; omega), List.length_map, Nat.sub_self] at hz1
      rcases hc with ⟨rfl, _⟩ | ⟨d, post', m2, rfl, hbad, hle2, hy⟩
      · cases hz1
      · cases hz1
        rw [hpl, List.take_length] at hnl
        have fin : ∀ (Γ2 : Sl) (D : AD), Γ2[4]? = some (some (.d (.int (pre.length : Nat)))) → ARSp PP K (tRzX K (clsOf mg "BadThing") "place" (fun cls d _ H' => E cls d H') (tVar 4)) Γ2 (mset m p1 (.lst (nl.map fun s => S.d (.str s)))) D := fun Γ2 D h4 => by
          refine arsp_drp hP (m2 := m2) (hle2.trans (Le.set hp1)) (arsp_raise hP hW (ar_var h4 ?_))
          exact ⟨_, rfl, by rw [hpl]; exact hy⟩
        ((with_reducible refine art_or ?_); (with_reducible refine art_not ?_); (with_reducible refine art_tb ?_); (with_reducible refine ar_call ?_); (with_reducible refine ara_cons ?_); (((with_reducible refine' ar_var ?hvz259 ?_); (case hvz259 => exact rfl))); (with_reducible refine ara_nil ?_); (((with_reducible refine' lf_in ?hvz260 ?_); (case hvz260 => exact rfl))); (refine ⟨_, rfl, ?_⟩); (dsimp only))
        rcases hbad with ⟨h1, h2⟩ | ⟨t, rfl, h1, h2, h3⟩
        · refine ⟨h1, ?_⟩
          rw [h2]
          ((refine ⟨_, rfl, ?_⟩); (((with_reducible refine' iteTd ?hvz261 ?_); (case hvz261 => decide +kernel))); (((with_reducible refine' iteTd ?hvz262 ?_); (case hvz262 => decide +kernel))))
          exact fin _ _ rfl
        · refine ⟨thP_of h1 h2, ?_⟩
          rw [thB_of h1 h2]
          ((refine ⟨_, rfl, ?_⟩); (((with_reducible refine' iteFd ?hvz263 ?_); (case hvz263 => decide +kernel))); (with_reducible refine art_test ?_); (with_reducible refine ar_op ?_); (with_reducible refine ar_op ?_); (((with_reducible refine' ar_var ?hvz264 ?_); (case hvz264 => exact rfl))); (with_reducible refine ar_int ?_); (((with_reducible refine' ix_t ?hvz265 ?_); (case hvz265 => exact rfl))); (((with_reducible refine' ar_var ?hvz266 ?_); (case hvz266 => exact rfl))))
          refine in_so mset_same ?_
          ((refine ⟨_, rfl, ?_⟩))
          rw [hnl, decide_eq_true h3]
          ((((with_reducible refine' iteTd ?hvz267 ?_); (case hvz267 => decide +kernel))))
          rw [← hnl]
          exact fin _ _ rfl
  obtain ⟨nl, o4, o5, o6, hle, hnl, rfl, rfl⟩ := h
  rw [hzl, List.length_append, List.length_map] at hle
  have hr0 : rest = [] := List.length_eq_zero_iff.mp (by omega)
  subst hr0
  rcases hc with ⟨_, rfl, q⟩ | ⟨d, post', m2, h0, _⟩
  case inr => cases h0
  rw [List.append_nil]
  generalize hL : (C.lst (nl.map fun s => S.d (.str s))) = L
  refine arsp_seq hP (arsp_for hP ?_)
  ((with_reducible refine ari_enum ?_); (with_reducible refine ara_cons ?_); (((with_reducible refine' ar_var ?hvz268 ?_); (case hvz268 => exact rfl))); (with_reducible refine ara_nil ?_); (refine ⟨_, rfl, ?_⟩); (dsimp only))
  refine forp_pre ([] : List PyData) (fun z => .d z) rfl (fun pre Γ' m' => Γ' = [some (.r p), some (.d (dThs ts)), some (.d (.list [])), some (.r p1), o4, o5, o6] ∧ m' = mset m p1 L) (fun _ _ _ _ => True.intro) ⟨rfl, rfl⟩ (fun pre z post Γ' m' he h => ?_) (fun Γ' m' h => ?_)
  · exact absurd (congrArg List.length he) (by simp)
  obtain ⟨rfl, rfl⟩ := h
  refine arsp_of ?_
  ((with_reducible refine ars_seq ?_); (with_reducible refine ars_fld ?_); (with_reducible refine ar_call ?_); (with_reducible refine ara_cons ?_); (with_reducible refine ar_cb ?_); (with_reducible refine ara_cons ?_); (((with_reducible refine' ar_var ?hvz269 ?_); (case hvz269 => exact rfl))); (with_reducible refine ara_nil ?_); (with_reducible refine list_l ?_); (with_reducible refine ara_nil ?_); (((with_reducible refine' lf_in ?hvz270 ?_); (case hvz270 => exact rfl))); (refine ⟨_, rfl, ?_⟩); (dsimp only))
  refine ⟨sm_dThs (by simpa using hsz) hg.ok, ?_⟩
  ((((with_reducible refine' ar_var ?hvz271 ?_); (case hvz271 => exact rfl))); (((with_reducible refine' ex_put ?hmz273 ?hcz275 ?hnz274 ?hlz272 ?hpz276 ?_); (case hmz273 => walk_at "mem"); (case hcz275 => assumption); (case hnz274 => assumption); (case hpz276 => walk_at "put"); (case hlz272 => simp only [List.length_cons, List.length_nil]; omega))); (with_reducible refine ars_fld ?_); (with_reducible refine ar_call ?_); (with_reducible refine ara_cons ?_); (with_reducible refine ar_cb ?_); (with_reducible refine ara_cons ?_); (((with_reducible refine' ar_var ?hvz277 ?_); (case hvz277 => exact rfl))); (with_reducible refine ara_nil ?_); (with_reducible refine list_l ?_); (with_reducible refine ara_nil ?_); (((with_reducible refine' lf_in ?hvz278 ?_); (case hvz278 => exact rfl))); (refine ⟨_, rfl, ?_⟩); (dsimp only))
  refine ⟨⟨by simp, fun _ h => (nomatch h)⟩, ?_⟩
  ((((with_reducible refine' ar_var ?hvz279 ?_); (case hvz279 => exact rfl))); (((with_reducible refine' ex_put ?hmz281 ?hcz283 ?hnz282 ?hlz280 ?hpz284 ?_); (case hmz281 => walk_at "mem"); (case hcz283 => assumption); (case hnz282 => assumption); (case hpz284 => walk_at "put"); (case hlz280 => simp only [List.length_cons, List.length_nil]; omega))); (rw [mset_mset]))
  rw [mset_comm ne1.symm]
  exact rt_le (Le.set (by rw [mset_ne ne1.symm]; exact hp1)) q)
theorem lookX {y : PyData} : List.lookup ("place" : Str) [(("place" : Str), y)] = some y := by simp [List.lookup]
def f__law_refused : FS := fun xs m Z => ∃ (ts : List Th) (rest : List PyData) (rs : PyData), xs = [.d (.list (ts.map dTh ++ rest)), .d rs] ∧ ts.length + rest.length ≤ 1000 ∧ Gd ts ∧
  ((rest = [] ∧ rs = .list [] ∧ Z (.d .none) m) ∨ ∃ d post, rest = d :: post ∧ Bad ts d ∧ Z (.d (.tuple [.str "thing", .int (ts.length : Nat)])) m)
set_option maxHeartbeats 4000000 in
theorem c__law_refused (B : Facts K mg) : Cal P w K mg base 11 2 "_law_refused" f__law_refused := (by
  refine cal_dl B.t__law_refused sc__law_refused (fun f cdv A outer s H E hr => ?_)
  have hu64 := hr.units
  have hu65 : (A.deeper (envOfC "_law_refused" (defScope s__law_refused) s.heap.objs.size f cdv)).units + 65 < cLine := by have := hr.un; omega
  have hu1 : (A.deeper (envOfC "_law_refused" (defScope s__law_refused) s.heap.objs.size f cdv)).units + 1 < cLine := by have := hr.un; omega
  refine ⟨_, (pss_cons (ps_set (i := 2) sc__law_refused.nd rfl (by first | exact Or.inl rfl | exact Or.inr rfl) pe_non) (pss_cons (ps_tryK (K := K) (i := 3) rfl rfl rfl rfl sc__law_refused.nd rfl rfl ⟨rfl, by decide, .inl B.g_ChoiceError⟩ (fun W pn xe tk hps => (pss_one (ps_expr (pe_mkSK (K := K) rfl (c_Choosing___init__ B) hr (by decide) tk (by rfl) B.g_Choosing (pa_cons (pv 0) (pa_cons (pv 1) pa_nil)))))) (fun a pn => (pss_one (ps_set (i := 2) sc__law_refused.nd rfl (by first | exact Or.inl rfl | exact Or.inr rfl) (pv 3))))) (pss_cons (ps_if (pt_cmpR op_IS (pv 2) pe_non (nomark _)) (pss_one (ps_ret pe_non)) pss_nil) (pss_cons (ps_if (pt_not (pt_val (pe_callB (call_isXK (K := K) rfl) (by rfl) B.m_isinstance (by decide +kernel) (pa_cons (pv 2) (pa_cons (pe_bltn (v := .ty "ValueError") (by rfl) B.m_ValueError (by decide +kernel) rfl) pa_nil))))) (pss_one (ps_ret (pe_tup (pa_cons pe_str (pa_cons (pe_un un_neg pe_int) pa_nil))))) pss_nil) (pss_cons (ps_if (pt_val (pe_callB (call_isXTK (K := K) rfl) (by rfl) B.m_isinstance (by decide +kernel) (pa_cons (pv 2) (pa_cons (pe_own (pe_tup (pa_cons (pe_glob (v := V.ref (clsOf mg "BadRow")) (by rfl) B.g_BadRow rfl) (pa_cons (pe_glob (v := V.ref (clsOf mg "HasAnswer")) (by rfl) B.g_HasAnswer rfl) (pa_cons (pe_glob (v := V.ref (clsOf mg "NoChoice")) (by rfl) B.g_NoChoice rfl) (pa_cons (pe_glob (v := V.ref (clsOf mg "NoValue")) (by rfl) B.g_NoValue rfl) (pa_cons (pe_glob (v := V.ref (clsOf mg "NotStuck")) (by rfl) B.g_NotStuck rfl) (pa_cons (pe_glob (v := V.ref (clsOf mg "Stuck")) (by rfl) B.g_Stuck rfl) pa_nil)))))))) pa_nil)))) (pss_one (ps_ret (pe_tup (pa_cons pe_str (pa_cons (pe_un un_neg pe_int) pa_nil))))) pss_nil) (pss_cons (ps_set (i := 4) sc__law_refused.nd rfl (by first | exact Or.inl rfl | exact Or.inr rfl) (pe_lst (pa_cons (pe_callB (call_isXK (K := K) rfl) (by rfl) B.m_isinstance (by decide +kernel) (pa_cons (pv 2) (pa_cons (pe_glob (v := V.ref (clsOf mg "BadThing")) (by rfl) B.g_BadThing rfl) pa_nil))) (pa_cons (pe_callB (call_isXK (K := K) rfl) (by rfl) B.m_isinstance (by decide +kernel) (pa_cons (pv 2) (pa_cons (pe_glob (v := V.ref (clsOf mg "BadRule")) (by rfl) B.g_BadRule rfl) pa_nil))) pa_nil)))) (pss_cons (ps_if (pt_cmpR (op_EQK (K := K) rfl hu64) (pv 4) (pe_lst (pa_cons pe_bl (pa_cons pe_bl pa_nil))) (nomark _)) (pss_one (ps_ret (pe_tup (pa_cons pe_str (pa_cons (pe_xfK (K := K) rfl (pv 2)) pa_nil))))) pss_nil) (pss_one (ps_ret (pe_ifExp (pt_cmpR (op_EQK (K := K) rfl hu64) (pv 4) (pe_lst (pa_cons pe_bl (pa_cons pe_bl pa_nil))) (nomark _)) (pe_tup (pa_cons pe_str (pa_cons (pe_xfK (K := K) rfl (pv 2)) pa_nil))) (pe_tup (pa_cons pe_str (pa_cons (pe_un un_neg pe_int) pa_nil))))))))))))), fun xs m Z h => ?_⟩
  clear hr hu64 hu65 hu1
  change ARS K _ (List.map some xs ++ List.replicate (5 - xs.length) none) m _
  -- slots: 0=_law_things_here 1=_law_rules 2=_law_caught 3=error 4=_law_kinds
  obtain ⟨ts, rest, rs, rfl, hsz, hg, hc⟩ := h
  ((with_reducible refine ars_seq ?_); (with_reducible refine ars_asg ?_); (with_reducible refine ar_non ?_); (with_reducible refine arg_name ?_); (with_reducible refine ars_seq ?_); (dsimp only))
  rcases hc with ⟨rfl, rfl, q⟩ | ⟨d, post, rfl, hbad, q⟩
  · refine ars_tryK (Y := fun _ _ _ _ => False) (fun PP W hP hW => ?_) (fun C fl Γ' m' y => y.elim)
    refine arsp_drop (arp_makeS hP hW ?_)
    ((with_reducible refine ara_cons ?_); (((with_reducible refine' ar_var ?hvz285 ?_); (case hvz285 => exact rfl))); (with_reducible refine ara_cons ?_); (((with_reducible refine' ar_var ?hvz286 ?_); (case hvz286 => exact rfl))); (with_reducible refine ara_nil ?_); (dsimp only))
    intro p dx hp
    refine ⟨rfl, p, dx, ts, [], _, rfl, mset_same, hsz, hg, .inl ⟨rfl, rfl, rfl, ?_⟩⟩
    rw [mset_mset]
    ((with_reducible refine ars_seq ?_); (with_reducible refine ars_if ?_); (with_reducible refine art_test ?_); (with_reducible refine ar_op ?_); (((with_reducible refine' ar_var ?hvz287 ?_); (case hvz287 => exact rfl))); (with_reducible refine ar_non ?_); (with_reducible refine is_non ?_); (refine ⟨_, rfl, ?_⟩); (((with_reducible refine' iteTd ?hvz288 ?_); (case hvz288 => decide +kernel))); (with_reducible refine ars_ret ?_); (with_reducible refine ar_non ?_); (dsimp only))
    exact rt_le (Le.set hp) q
  · refine ars_tryK (Y := fun C fl Γ' m' => C = clsOf mg "BadThing" ∧ fl = [(("place" : Str), PyData.int (ts.length : Nat))] ∧ Γ' = [some (.d (.list (ts.map dTh ++ d :: post))), some (.d rs), some (.d .none), none, none] ∧ m' = m) (fun PP W hP hW => ?_) (fun C fl Γ' m' y => ?_)
    · refine arsp_drop (arp_makeS hP hW ?_)
      ((with_reducible refine ara_cons ?_); (((with_reducible refine' ar_var ?hvz289 ?_); (case hvz289 => exact rfl))); (with_reducible refine ara_cons ?_); (((with_reducible refine' ar_var ?hvz290 ?_); (case hvz290 => exact rfl))); (with_reducible refine ara_nil ?_); (dsimp only))
      intro p dx hp
      exact ⟨rfl, p, dx, ts, d :: post, _, rfl, mset_same, hsz, hg, .inr ⟨d, post, m, rfl, hbad, Le.set hp, rfl, rfl, rfl, rfl⟩⟩
    · obtain ⟨rfl, rfl, rfl, rfl⟩ := y
      refine ⟨B.em_BadThing_ChoiceError, ?_⟩
      ((with_reducible refine ars_asg ?_); (((with_reducible refine' ar_var ?hvz291 ?_); (case hvz291 => exact rfl))); (with_reducible refine arg_name ?_); (with_reducible refine ars_seq ?_); (with_reducible refine ars_if ?_); (with_reducible refine art_test ?_); (with_reducible refine ar_op ?_); (((with_reducible refine' ar_var ?hvz292 ?_); (case hvz292 => exact rfl))); (with_reducible refine ar_non ?_); (dsimp only))
      refine is_x ?_
      ((refine ⟨_, rfl, ?_⟩); (with_reducible refine L2.iteF ?_); (with_reducible refine ars_next ?_); (with_reducible refine ars_seq ?_); (with_reducible refine ars_if ?_); (with_reducible refine art_not ?_); (with_reducible refine art_tb ?_); (with_reducible refine ar_cb ?_); (with_reducible refine ara_cons ?_); (((with_reducible refine' ar_var ?hvz293 ?_); (case hvz293 => exact rfl))); (with_reducible refine ara_cons ?_); (with_reducible refine ar_ty ?_); (with_reducible refine ara_nil ?_); (dsimp only))
      refine isx_t B.ec_BadThing B.kb_BadThing_ValueError ?_
      ((refine ⟨_, rfl, ?_⟩); (((with_reducible refine' iteFd ?hvz294 ?_); (case hvz294 => decide +kernel))); (with_reducible refine ars_next ?_); (with_reducible refine ars_seq ?_); (with_reducible refine ars_if ?_); (with_reducible refine art_tb ?_); (with_reducible refine ar_cb ?_); (with_reducible refine ara_cons ?_); (((with_reducible refine' ar_var ?hvz295 ?_); (case hvz295 => exact rfl))); (with_reducible refine ara_cons ?_); (((with_reducible refine ar_tupOO ?_))); (with_reducible refine ara_cons ?_); (dsimp only))
      refine ar_cref ?_
      ((with_reducible refine ara_cons ?_))
      refine ar_cref ?_
      ((with_reducible refine ara_cons ?_))
      refine ar_cref ?_
      ((with_reducible refine ara_cons ?_))
      refine ar_cref ?_
      ((with_reducible refine ara_cons ?_))
      refine ar_cref ?_
      ((with_reducible refine ara_cons ?_))
      refine ar_cref ?_
      ((with_reducible refine ara_nil ?_); (walk_at "s1"))
      intro p hp
      ((with_reducible refine ara_nil ?_))
      refine isx_T (Ds := [clsOf mg "BadRow", clsOf mg "HasAnswer", clsOf mg "NoChoice", clsOf mg "NoValue", clsOf mg "NotStuck", clsOf mg "Stuck"]) (b := false) B.ec_BadThing mset_same (by simp only [List.map, PySem.W.kitAny, B.ki_BadThing_BadRow, B.ki_BadThing_HasAnswer, B.ki_BadThing_NoChoice, B.ki_BadThing_NoValue, B.ki_BadThing_NotStuck, B.ki_BadThing_Stuck]) ?_
      ((refine ⟨_, rfl, ?_⟩); (with_reducible refine L2.iteF ?_); (with_reducible refine ars_next ?_); (with_reducible refine ars_seq ?_); (with_reducible refine ars_asg ?_); (with_reducible refine ar_lstD ?_); (with_reducible refine ara_cons ?_); (with_reducible refine ar_cb ?_); (with_reducible refine ara_cons ?_); (((with_reducible refine' ar_var ?hvz296 ?_); (case hvz296 => exact rfl))); (with_reducible refine ara_cons ?_); (dsimp only))
      refine ar_cref ?_
      ((with_reducible refine ara_nil ?_))
      refine isx_r B.ec_BadThing B.ki_BadThing_BadThing ?_
      ((with_reducible refine ara_cons ?_); (with_reducible refine ar_cb ?_); (with_reducible refine ara_cons ?_); (((with_reducible refine' ar_var ?hvz297 ?_); (case hvz297 => exact rfl))); (with_reducible refine ara_cons ?_))
      refine ar_cref ?_
      ((with_reducible refine ara_nil ?_))
      refine isx_r B.ec_BadThing B.ki_BadThing_BadRule ?_
      ((with_reducible refine ara_nil ?_); (with_reducible refine ex_ds2 ?_); (walk_at "s1"); (with_reducible refine arg_name ?_); (with_reducible refine ars_seq ?_); (with_reducible refine ars_if ?_); (with_reducible refine art_test ?_); (with_reducible refine ar_op ?_); (((with_reducible refine' ar_var ?hvz298 ?_); (case hvz298 => exact rfl))); (with_reducible refine ar_lstD ?_); (with_reducible refine ara_cons ?_); (with_reducible refine ar_bl ?_); (with_reducible refine ara_cons ?_); (with_reducible refine ar_bl ?_); (with_reducible refine ara_nil ?_); (with_reducible refine ex_ds2 ?_); (walk_at "s1"); (dsimp only))
      refine eq_d rfl rfl ?_
      ((refine ⟨_, rfl, ?_⟩); (((with_reducible refine' iteTd ?hvz299 ?_); (case hvz299 => decide +kernel))); (with_reducible refine ars_ret ?_); (with_reducible refine ar_tup ?_); (with_reducible refine ara_cons ?_); (with_reducible refine ar_str ?_); (with_reducible refine ara_cons ?_); (dsimp only))
      refine ar_xf (ar_var rfl ?_)
      refine ⟨_, _, _, rfl, B.ec_BadThing, B.tx_BadThing.no, lookX, ?_⟩
      ((with_reducible refine ara_nil ?_); (with_reducible refine ex_ds2 ?_); (walk_at "s1"))
      exact rt_le (Le.set hp) q)
def Bd (d : PyData) : Prop := thP d ∧ thB d = false
theorem sl_s {K : PySem.W.Frag} {m : Mem} {Q : S → Mem → Prop} {s : Str} {lo hi : Option Int} (hl : s.length ≤ 1000000) (q : Q (.d (.str (cutS s lo hi))) m) : LS K (rSL K) (.d (.str s)) lo hi m Q := fun v F R H Q' a c k => by
  cases a
  exact .inr (.inr ⟨s, rfl, sz_ok hl, k _ (.d (.str _)) F m H (Same.refl F) c (Dq.str _) q⟩)
theorem bd_n {a v : PyData} (h : naB a = false) (h1 : naP a) (h2 : vaP v) : Bd (.tuple [a, v]) := ⟨⟨h1, h2⟩, by show (naB a && vaB v) = false; rw [h]; rfl⟩
theorem bd_v {a v : PyData} (h : vaB v = false) (h1 : naP a) (h2 : vaP v) : Bd (.tuple [a, v]) := ⟨⟨h1, h2⟩, by show (naB a && vaB v) = false; rw [h, Bool.and_false]⟩
theorem na_c {s : Str} {c : Nat} (h : c ∈ s.cps.toList) (h2 : ¬ c ∈ abcS.cps.toList) : naB (.str s) = false := (by
  show (decide (1 ≤ s.length) && (decide (s.length ≤ 8) && s.cps.toList.all fun c => decide (c ∈ abcS.cps.toList))) = false
  rw [show (s.cps.toList.all fun c => decide (c ∈ abcS.cps.toList)) = false from List.all_eq_false.mpr ⟨c, h, by rw [decide_eq_false h2]; decide⟩, Bool.and_false, Bool.and_false])
theorem na_l {s : Str} (h : 9 ≤ s.length) : naB (.str s) = false := (by
  show (decide (1 ≤ s.length) && (decide (s.length ≤ 8) && s.cps.toList.all fun c => decide (c ∈ abcS.cps.toList))) = false
  rw [decide_eq_false (show ¬ s.length ≤ 8 by omega), Bool.false_and, Bool.and_false])
theorem mul9 {x : Str} (h : x.length = 1) : (Txt.mul x 9).length = 9 := (by
  unfold Txt.mul
  split
  · rename_i h0
    first | exact absurd h0 (by decide) | omega | exact absurd h0 (by simp [h]) | (simp [h] at h0)
  · split
    · rename_i h0
      first | exact absurd h0 (by decide) | omega | (simp [h] at h0)
    · show ((List.replicate (9 : Int).toNat x.cps).foldl (· ++ ·) #[]).size = 9
      rw [rep_size]
      have e : x.length = x.cps.size := rfl
      rw [← e, h]
      rfl)
theorem cut1 {s : Str} (h : 1 ≤ s.length) : (cutS s none (some 1)).length = 1 := (by
  show (((s.cps.toList.drop (HT.sIx s.length 0 none)).take (HT.sIx s.length s.length (some 1) - HT.sIx s.length 0 none)).toArray).size = 1
  have e1 : HT.sIx s.length 0 none = 0 := rfl
  have e2 : HT.sIx s.length s.length (some 1) = 1 := by unfold HT.sIx; first | (simp; omega) | omega | rfl
  have e3 : s.cps.toList.length = s.length := Array.length_toList
  rw [e1, e2, List.size_toArray, List.length_take, List.length_drop]
  omega)
theorem app_l {x y : Str} {c : Nat} (h : c ∈ x.cps.toList) : c ∈ (x ++ y).cps.toList := (by
  rw [show (x ++ y).cps = x.cps ++ y.cps from rfl, Array.toList_append]; exact List.mem_append_left _ h)
theorem app_r {x y : Str} {c : Nat} (h : c ∈ y.cps.toList) : c ∈ (x ++ y).cps.toList := (by
  rw [show (x ++ y).cps = x.cps ++ y.cps from rfl, Array.toList_append]; exact List.mem_append_right _ h)
theorem app_len {x y : Str} : (x ++ y).length = x.length + y.length := (by
  show (x ++ y).cps.size = _
  rw [show (x ++ y).cps = x.cps ++ y.cps from rfl, Array.size_append]; rfl)
theorem va_app {ns : List Int} {low : Int} (h : ns[0]? = some low) (hp : ns.Pairwise (· < ·)) : vaB (dI (ns ++ [low])) = false := (by
  show (decide (((ns ++ [low]).map PyData.int).length ≠ 0) && (((ns ++ [low]).map PyData.int).all isNum && rsB (((ns ++ [low]).map PyData.int).map unI))) = false
  rw [unI_map]
  have : rsB (ns ++ [low]) = false := by
    obtain ⟨h0, h1⟩ := List.getElem?_eq_some_iff.mp h
    refine List.all_eq_false.mpr ⟨ns.length - 1, List.mem_range.mpr (by rw [List.length_append]; simp; omega), ?_⟩
    have e1 : (ns ++ [low]).getD (ns.length - 1) 0 = ns[ns.length - 1]'(by omega) := by rw [List.getD_eq_getElem?_getD, List.getElem?_append_left (by omega), List.getElem?_eq_getElem (by omega)]; rfl
    have e2 : (ns ++ [low]).getD (ns.length - 1 + 1) 0 = low := by rw [List.getD_eq_getElem?_getD, show ns.length - 1 + 1 = ns.length by omega, List.getElem?_append_right (Nat.le_refl _)]; simp
    have h3 : low ≤ ns[ns.length - 1]'(by omega) := by
      by_cases hz : ns.length - 1 = 0
      · have : ns[ns.length - 1]'(by omega) = ns[0] := by congr 1
        omega
      · have := List.pairwise_iff_getElem.mp hp 0 (ns.length - 1) (by omega) (by omega) (by omega)
        omega
    rw [e1, e2, decide_eq_false (by omega)]
    decide
  rw [this, Bool.and_false, Bool.and_false])
theorem va_two {x y : Int} (h : ¬ x < y) : vaB (dI [x, y]) = false := (by
  show (decide (2 ≠ 0) && ((true && (true && true)) && ((decide (x < y)) && true))) = false
  rw [decide_eq_false h]; rfl)
def f__law_spoilt : FS := fun xs m Z => ∃ (a : Addr) (c : C) (z : Int) (ts : List Th) (k : Nat), xs = [.r a, .d (dThs ts), .d (.int (k : Nat))] ∧ m a = some c ∧ DgD c z ∧ z < 900000000 ∧ k < ts.length ∧ (∀ t ∈ ts, ThOk t) ∧ (∀ t ∈ ts, ThV t) ∧ ∀ (d : PyData) (c' : C), Bd d → DgD c' (z + 1) → Z (.d d) (mset m a c')
set_option maxHeartbeats 4000000 in
theorem c__law_spoilt (B : Facts K mg) : Cal P w K mg base 2 3 "_law_spoilt" f__law_spoilt := (by
  refine cal_dl B.t__law_spoilt sc__law_spoilt (fun f cdv A outer s H E hr => ?_)
  have hu64 := hr.units
  have hu65 : (A.deeper (envOfC "_law_spoilt" (defScope s__law_spoilt) s.heap.objs.size f cdv)).units + 65 < cLine := by have := hr.un; omega
  have hu1 : (A.deeper (envOfC "_law_spoilt" (defScope s__law_spoilt) s.heap.objs.size f cdv)).units + 1 < cLine := by have := hr.un; omega
  refine ⟨_, (pss_cons (ps_asg (pe_ix (ix_allK (K := K) rfl) (pv 1) (pv 2) (fun _ _ => rfl)) (pg_tupK (n := 2) (K := K) rfl rfl (pgs_cons (pg_name (i := 3) sc__law_spoilt.nd rfl (by first | exact Or.inl rfl | exact Or.inr rfl)) (pgs_cons (pg_name (i := 4) sc__law_spoilt.nd rfl (by first | exact Or.inl rfl | exact Or.inr rfl)) pgs_nil)))) (pss_cons (ps_set (i := 5) sc__law_spoilt.nd rfl (by first | exact Or.inl rfl | exact Or.inr rfl) (pe_ix (ix_allK (K := K) rfl) (pv 4) pe_int (fun _ _ => rfl))) (pss_cons (ps_set (i := 6) sc__law_spoilt.nd rfl (by first | exact Or.inl rfl | exact Or.inr rfl) (pe_lst (pa_cons (pe_tup (pa_cons pe_str (pa_cons (pv 4) pa_nil))) (pa_cons (pe_tup (pa_cons (pe_op op_smul (pe_slice (sl_allK (K := K) rfl) (pv 3) po_none (po_some pe_int)) pe_int) (pa_cons (pv 4) pa_nil))) (pa_cons (pe_tup (pa_cons (pe_op (op_plusK (K := K) rfl) pe_str (pe_slice (sl_allK (K := K) rfl) (pv 3) po_none (po_some pe_int))) (pa_cons (pv 4) pa_nil))) (pa_cons (pe_tup (pa_cons (pe_op (op_plusK (K := K) rfl) (pe_slice (sl_allK (K := K) rfl) (pv 3) po_none (po_some pe_int)) pe_str) (pa_cons (pv 4) pa_nil))) (pa_cons (pe_tup (pa_cons pe_int (pa_cons (pv 4) pa_nil))) pa_nil))))))) (pss_cons (ps_set (i := 6) sc__law_spoilt.nd rfl (by first | exact Or.inl rfl | exact Or.inr rfl) (pe_op (op_plusK (K := K) rfl) (pv 6) (pe_lst (pa_cons (pe_tup (pa_cons pe_non (pa_cons (pv 4) pa_nil))) (pa_cons (pe_tup (pa_cons (pv 3) (pa_cons (pe_lst pa_nil) pa_nil))) (pa_cons (pe_tup (pa_cons (pv 3) (pa_cons (pe_lst (pa_cons (pv 5) (pa_cons (pv 5) pa_nil))) pa_nil))) (pa_cons (pe_tup (pa_cons (pv 3) (pa_cons (pe_op (op_plusK (K := K) rfl) (pv 4) (pe_lst (pa_cons (pv 5) pa_nil))) pa_nil))) (pa_cons (pe_tup (pa_cons (pv 3) (pa_cons (pe_lst (pa_cons (pe_op (op_plusK (K := K) rfl) (pv 5) pe_int) (pa_cons (pv 5) pa_nil))) pa_nil))) pa_nil)))))))) (pss_cons (ps_set (i := 6) sc__law_spoilt.nd rfl (by first | exact Or.inl rfl | exact Or.inr rfl) (pe_op (op_plusK (K := K) rfl) (pv 6) (pe_lst (pa_cons (pe_tup (pa_cons (pv 3) (pa_cons (pe_lst (pa_cons pe_bl pa_nil)) pa_nil))) (pa_cons (pe_tup (pa_cons (pv 3) (pa_cons (pe_lst (pa_cons (pv 5) (pa_cons pe_str pa_nil))) pa_nil))) (pa_cons (pe_tup (pa_cons (pv 3) (pa_cons (pe_lst (pa_cons pe_non pa_nil)) pa_nil))) (pa_cons (pe_tup (pa_cons (pv 3) (pa_cons pe_non pa_nil))) (pa_cons (pe_tup (pa_cons (pv 3) (pa_cons (pv 5) pa_nil))) (pa_cons (pe_tup (pa_cons (pv 3) pa_nil)) pa_nil))))))))) (pss_cons (ps_set (i := 6) sc__law_spoilt.nd rfl (by first | exact Or.inl rfl | exact Or.inr rfl) (pe_op (op_plusK (K := K) rfl) (pv 6) (pe_lst (pa_cons (pe_tup (pa_cons (pv 3) (pa_cons (pv 4) (pa_cons (pv 4) pa_nil)))) (pa_cons pe_non (pa_cons (pv 3) (pa_cons (pe_tup (pa_cons (pv 3) (pa_cons (pe_lst (pa_cons (pv 5) (pa_cons pe_bl pa_nil))) pa_nil))) (pa_cons (pe_tup (pa_cons pe_str (pa_cons (pv 4) pa_nil))) pa_nil)))))))) (pss_one (ps_ret (pe_ix (ix_allK (K := K) rfl) (pv 6) (pe_fK (K := K) rfl (c__law_pick B) hr (by decide) (by rfl) (pa_cons (pv 0) (pa_cons (pe_callB (cr_lenK (K := K) rfl) (by rfl) B.m_len (by decide +kernel) (pa_cons (pv 6) pa_nil)) pa_nil))) (fun _ _ => rfl)))))))))), fun xs m Z h => ?_⟩
  clear hr hu64 hu65 hu1
  change ARS K _ (List.map some xs ++ List.replicate (7 - xs.length) none) m _
  -- slots: 0=_law_d 1=_law_things_here 2=_law_at 3=_law_name 4=_law_values_here 5=_law_low 6=_law_some
  obtain ⟨a, c, z, ts, k, rfl, hm, hd, hz, hk, hto, htv, q⟩ := h
  have e1 := List.getElem?_eq_getElem hk
  obtain ⟨⟨s, ns⟩, ht⟩ : ∃ t, t = ts[k] := ⟨_, rfl⟩
  have h1 := hto _ (List.getElem_mem hk)
  have h2 := htv _ (List.getElem_mem hk)
  rw [← ht] at e1 h1 h2
  obtain ⟨hl1, hl2⟩ : 1 ≤ ns.length ∧ ns.length ≤ 16 := h1
  obtain ⟨⟨hs1, hs2, hs3⟩, hp⟩ : NameOk s ∧ ns.Pairwise (· < ·) := h2
  obtain ⟨low, hlow⟩ : ∃ low, ns[0]? = some low := ⟨_, List.getElem?_eq_getElem (by omega)⟩
  have hc7 := cutS_length s none (some 7)
  have hc1 := cut1 hs1
  ((with_reducible refine ars_seq ?_); (with_reducible refine ars_asg ?_); (with_reducible refine ar_op ?_); (((with_reducible refine' ar_var ?hvz300 ?_); (case hvz300 => exact rfl))); (((with_reducible refine' ar_var ?hvz301 ?_); (case hvz301 => exact rfl))); (dsimp only))
  refine ix_l (atm e1) ?_
  ((((with_reducible refine' arg_tup ?hvz302 ?_); (case hvz302 => exact rfl); dsimp only [List.map])); (with_reducible refine args_cons ?_); (with_reducible refine arg_name ?_); (with_reducible refine args_cons ?_); (with_reducible refine arg_name ?_); (with_reducible refine args_nil ?_); (with_reducible refine ars_seq ?_); (with_reducible refine ars_asg ?_); (with_reducible refine ar_op ?_); (((with_reducible refine' ar_var ?hvz303 ?_); (case hvz303 => exact rfl))); (with_reducible refine ar_int ?_); (dsimp only))
  refine ix_l (atm hlow) ?_
  ((with_reducible refine arg_name ?_); (with_reducible refine ars_seq ?_); (with_reducible refine ars_asg ?_); (with_reducible refine ar_lstD ?_); (with_reducible refine ara_cons ?_); (with_reducible refine ar_tup ?_); (with_reducible refine ara_cons ?_); (with_reducible refine ar_str ?_); (with_reducible refine ara_cons ?_); (((with_reducible refine' ar_var ?hvz304 ?_); (case hvz304 => exact rfl))); (with_reducible refine ara_nil ?_); (with_reducible refine ex_ds2 ?_); (walk_at "s1"); (with_reducible refine ara_cons ?_); (with_reducible refine ar_tup ?_); (with_reducible refine ara_cons ?_); (with_reducible refine ar_op ?_); (with_reducible refine ar_sl ?_); (((with_reducible refine' ar_var ?hvz305 ?_); (case hvz305 => exact rfl))); (with_reducible refine aro_none ?_); (with_reducible refine aro_some ?_); (with_reducible refine ar_int ?_); (refine ⟨_, rfl, ?_⟩); (dsimp only))
  refine sl_s (by omega) ?_
  ((with_reducible refine ar_int ?_))
  refine smul_s (by omega) (by omega) (by omega) ?_
  ((with_reducible refine ara_cons ?_); (((with_reducible refine' ar_var ?hvz306 ?_); (case hvz306 => exact rfl))); (with_reducible refine ara_nil ?_); (with_reducible refine ex_ds2 ?_); (walk_at "s1"); (with_reducible refine ara_cons ?_); (with_reducible refine ar_tup ?_); (with_reducible refine ara_cons ?_); (with_reducible refine ar_op ?_); (with_reducible refine ar_str ?_); (with_reducible refine ar_sl ?_); (((with_reducible refine' ar_var ?hvz307 ?_); (case hvz307 => exact rfl))); (with_reducible refine aro_none ?_); (with_reducible refine aro_some ?_); (with_reducible refine ar_int ?_); (refine ⟨_, rfl, ?_⟩))
  refine sl_s (by omega) ?_
  skip
  refine plus_s (by show 1 + _ ≤ _; omega) ?_
  ((with_reducible refine ara_cons ?_); (((with_reducible refine' ar_var ?hvz308 ?_); (case hvz308 => exact rfl))); (with_reducible refine ara_nil ?_); (with_reducible refine ex_ds2 ?_); (walk_at "s1"); (with_reducible refine ara_cons ?_); (with_reducible refine ar_tup ?_); (with_reducible refine ara_cons ?_); (with_reducible refine ar_op ?_); (with_reducible refine ar_sl ?_); (((with_reducible refine' ar_var ?hvz309 ?_); (case hvz309 => exact rfl))); (with_reducible refine aro_none ?_); (with_reducible refine aro_some ?_); (with_reducible refine ar_int ?_); (refine ⟨_, rfl, ?_⟩))
  refine sl_s (by omega) ?_
  ((with_reducible refine ar_str ?_))
  refine plus_s (by show _ + 1 ≤ _; omega) ?_
  ((with_reducible refine ara_cons ?_); (((with_reducible refine' ar_var ?hvz310 ?_); (case hvz310 => exact rfl))); (with_reducible refine ara_nil ?_); (with_reducible refine ex_ds2 ?_); (walk_at "s1"); (with_reducible refine ara_cons ?_); (with_reducible refine ar_tup ?_); (with_reducible refine ara_cons ?_); (with_reducible refine ar_int ?_); (with_reducible refine ara_cons ?_); (((with_reducible refine' ar_var ?hvz311 ?_); (case hvz311 => exact rfl))); (with_reducible refine ara_nil ?_); (with_reducible refine ex_ds2 ?_); (walk_at "s1"); (with_reducible refine ara_nil ?_); (((with_reducible refine' ex_dsn ?hvz312 ?_); (case hvz312 => exact rfl); dsimp only [List.map, unS])); (walk_at "s1"); (with_reducible refine arg_name ?_); (with_reducible refine ars_seq ?_); (with_reducible refine ars_asg ?_); (with_reducible refine ar_op ?_); (((with_reducible refine' ar_var ?hvz313 ?_); (case hvz313 => exact rfl))); (with_reducible refine ar_lstD ?_); (with_reducible refine ara_cons ?_); (with_reducible refine ar_tup ?_); (with_reducible refine ara_cons ?_); (with_reducible refine ar_non ?_); (with_reducible refine ara_cons ?_); (((with_reducible refine' ar_var ?hvz314 ?_); (case hvz314 => exact rfl))); (with_reducible refine ara_nil ?_); (with_reducible refine ex_ds2 ?_); (walk_at "s1"); (with_reducible refine ara_cons ?_); (with_reducible refine ar_tup ?_); (with_reducible refine ara_cons ?_); (((with_reducible refine' ar_var ?hvz315 ?_); (case hvz315 => exact rfl))); (with_reducible refine ara_cons ?_); (with_reducible refine ar_lstD ?_); (with_reducible refine ara_nil ?_); (with_reducible refine ex_ds0 ?_); (walk_at "s1"); (with_reducible refine ara_nil ?_); (with_reducible refine ex_ds2 ?_); (walk_at "s1"); (with_reducible refine ara_cons ?_); (with_reducible refine ar_tup ?_); (with_reducible refine ara_cons ?_); (((with_reducible refine' ar_var ?hvz316 ?_); (case hvz316 => exact rfl))); (with_reducible refine ara_cons ?_); (with_reducible refine ar_lstD ?_); (with_reducible refine ara_cons ?_); (((with_reducible refine' ar_var ?hvz317 ?_); (case hvz317 => exact rfl))); (with_reducible refine ara_cons ?_); (((with_reducible refine' ar_var ?hvz318 ?_); (case hvz318 => exact rfl))); (with_reducible refine ara_nil ?_); (with_reducible refine ex_ds2 ?_); (walk_at "s1"); (with_reducible refine ara_nil ?_); (with_reducible refine ex_ds2 ?_); (walk_at "s1"); (with_reducible refine ara_cons ?_); (with_reducible refine ar_tup ?_); (with_reducible refine ara_cons ?_); (((with_reducible refine' ar_var ?hvz319 ?_); (case hvz319 => exact rfl))); (with_reducible refine ara_cons ?_); (with_reducible refine ar_op ?_); (((with_reducible refine' ar_var ?hvz320 ?_); (case hvz320 => exact rfl))); (with_reducible refine ar_lstD ?_); (with_reducible refine ara_cons ?_); (((with_reducible refine' ar_var ?hvz321 ?_); (case hvz321 => exact rfl))); (with_reducible refine ara_nil ?_); (with_reducible refine ex_ds1 ?_); (walk_at "s1"); (dsimp only))
  refine plus_m1 (f := PyData.int) (by omega) ?_
  ((with_reducible refine ara_nil ?_); (with_reducible refine ex_ds2 ?_); (walk_at "s1"); (with_reducible refine ara_cons ?_); (with_reducible refine ar_tup ?_); (with_reducible refine ara_cons ?_); (((with_reducible refine' ar_var ?hvz322 ?_); (case hvz322 => exact rfl))); (with_reducible refine ara_cons ?_); (with_reducible refine ar_lstD ?_); (with_reducible refine ara_cons ?_); (with_reducible refine ar_op ?_); (((with_reducible refine' ar_var ?hvz323 ?_); (case hvz323 => exact rfl))); (with_reducible refine ar_int ?_); (with_reducible refine plus_i ?_); (with_reducible refine ara_cons ?_); (((with_reducible refine' ar_var ?hvz324 ?_); (case hvz324 => exact rfl))); (with_reducible refine ara_nil ?_); (with_reducible refine ex_ds2 ?_); (walk_at "s1"); (with_reducible refine ara_nil ?_); (with_reducible refine ex_ds2 ?_); (walk_at "s1"); (with_reducible refine ara_nil ?_); (((with_reducible refine' ex_dsn ?hvz325 ?_); (case hvz325 => exact rfl); dsimp only [List.map, unS])); (walk_at "s1"))
  repeat (refine plus_l (by simp) ?_; walk_at "go")
  rename_i r c' g0 g1 hd'
  refine ix_any_l g0 (by first | exact g1 | simpa using g1) (fun d hdm => ?_)
  have hns : vaP (dI ns) := by show (ns.map PyData.int).length ≤ 100000; rw [List.length_map]; omega
  have hnP : naP (.str s) := by show s.length ≤ 100000; omega
  have fin : Bd d := by
    simp only [List.mem_append, List.mem_cons, List.not_mem_nil, or_false] at hdm
    rcases hdm with ((((rfl | rfl | rfl | rfl | rfl) | (rfl | rfl | rfl | rfl | rfl)) | (rfl | rfl | rfl | rfl | rfl | rfl)) | (rfl | rfl | rfl | rfl | rfl))
    · exact bd_n rfl (by show (0 : Nat) ≤ _; omega) hns
    · exact bd_n (na_l (by rw [mul9 hc1]; exact Nat.le_refl _)) (by show (Txt.mul (cutS s none (some 1)) 9).length ≤ _; rw [mul9 hc1]; omega) hns
    · exact bd_n (na_c (c := 65) (app_l (by decide)) (by rw [abc_list]; decide)) (by show (Str.ofString "A" ++ cutS s none (some 7)).length ≤ _; rw [app_len]; show 1 + _ ≤ _; omega) hns
    · exact bd_n (na_c (c := 49) (app_r (by decide)) (by rw [abc_list]; decide)) (by show (cutS s none (some 7) ++ Str.ofString "1").length ≤ _; rw [app_len]; show _ + 1 ≤ _; omega) hns
    · exact bd_n rfl True.intro hns
    · exact bd_n rfl True.intro hns
    · exact bd_v rfl hnP (by show (0 : Nat) ≤ _; omega)
    · exact bd_v (va_two (by omega)) hnP (by show (2 : Nat) ≤ _; omega)
    · exact bd_v (va_app hlow hp) hnP (by show ((ns ++ [low]).map PyData.int).length ≤ 100000; rw [List.length_map, List.length_append]; simp; omega)
    · exact bd_v (va_two (by omega)) hnP (by show (2 : Nat) ≤ _; omega)
    · exact bd_v rfl hnP (by show (1 : Nat) ≤ _; omega)
    · exact bd_v rfl hnP (by show (2 : Nat) ≤ _; omega)
    · exact bd_v rfl hnP (by show (1 : Nat) ≤ _; omega)
    · exact bd_v rfl hnP True.intro
    · exact bd_v rfl hnP True.intro
    · exact ⟨True.intro, rfl⟩
    · exact ⟨True.intro, rfl⟩
    · exact ⟨True.intro, rfl⟩
    · exact ⟨True.intro, rfl⟩
    · exact bd_v rfl hnP (by show (2 : Nat) ≤ _; omega)
    · exact bd_n (na_c (c := 32) (by decide) (by rw [abc_list]; decide)) (by show (3 : Nat) ≤ _; omega) hns
  exact rt_id (q d c' fin hd'))
theorem use_spoilt {a : Addr} {c : C} {z : Int} {ts : List Th} {k : Nat} {m : Mem} {Z : S → Mem → Prop} (hm : m a = some c) (hd : DgD c z) (hz : z < 900000000) (hk : k < ts.length) (hto : ∀ t ∈ ts, ThOk t) (htv : ∀ t ∈ ts, ThV t) (q : ∀ (d : PyData) (c' : C), Bd d → DgD c' (z + 1) → Z (.d d) (mset m a c')) : f__law_spoilt [.r a, .d (dThs ts), .d (.int (k : Nat))] m Z := ⟨a, c, z, ts, k, rfl, hm, hd, hz, hk, hto, htv, q⟩
/-- a list of things, spoilt at f first -/
structure Sp (ts : List Th) (ds : List PyData) (f : Nat) : Prop where
  len : ds.length = ts.length
  le : f ≤ ts.length
  lo : ∀ j, j < f → ds[j]? = (ts[j]?).map dTh
  at_ : ∀ d, ds[f]? = some d → Bd d
theorem sp_0 {ts : List Th} : Sp ts (ts.map dTh) ts.length := ⟨by rw [List.length_map], Nat.le_refl _, fun j _ => List.getElem?_map, fun d h => by rw [List.getElem?_eq_none (by rw [List.length_map]; exact Nat.le_refl _)] at h; cases h⟩
theorem sp_set {ts : List Th} {ds : List PyData} {f k : Nat} {d : PyData} (h : Sp ts ds f) (hk : k < ts.length) (hb : Bd d) : Sp ts (ds.set k d) (min f k) := (by
  have hl := h.len
  have hle := h.le
  refine ⟨by rw [List.length_set]; exact hl, by omega, fun j hj => ?_, fun d' hd => ?_⟩
  · rw [List.getElem?_set_ne (by omega)]
    exact h.lo j (by omega)
  · by_cases hf : f < k
    · rw [show min f k = f by omega, List.getElem?_set_ne (by omega)] at hd
      exact h.at_ d' hd
    · rw [show min f k = k by omega, List.getElem?_set_self (by omega)] at hd
      cases hd
      exact hb)
theorem sp_split {ts : List Th} {ds : List PyData} {f : Nat} (h : Sp ts ds f) (hf : f < ts.length) : ∃ d post, ds = (ts.take f).map dTh ++ d :: post ∧ Bd d ∧ post.length ≤ ts.length := (by
  have hl := h.len
  have e1 := List.getElem?_eq_getElem (show f < ds.length by omega)
  refine ⟨ds[f], ds.drop (f + 1), ?_, h.at_ _ e1, by rw [List.length_drop]; omega⟩
  have e2 : ds.take f = (ts.take f).map dTh := List.ext_getElem? fun j => by
    rw [List.getElem?_map, List.getElem?_take, List.getElem?_take]
    by_cases hj : j < f
    · rw [if_pos hj, if_pos hj]; exact h.lo j hj
    · rw [if_neg hj, if_neg hj]; rfl
  rw [← e2]
  exact take_pre e1)
theorem gd_take {ts : List Th} {f : Nat} (h : Gd ts) : Gd (ts.take f) := ⟨fun t ht => h.ok t (List.mem_of_mem_take ht), fun t ht => h.v t (List.mem_of_mem_take ht), by rw [List.map_take]; exact h.nd.sublist (List.take_sublist _ _)⟩
theorem sh_tf {n : Nat} : Sh 1 (.tuple [.str "thing", .int (n : Nat)]) := sh_t2 (n := 0) (sh_str (by decide +kernel)) sh_int
def f_law : FS := fun xs m Z => ∃ (ns : List Int), xs = [.scr ns] ∧ ns.length ≤ 63 ∧ ∀ m, Z (.d (.bool true)) m
set_option maxHeartbeats 8000000 in
theorem c_law (B : Facts K mg) {f : Addr} {fd : FuncData} (F : Fun K "law" "law" s_law f fd) : FnOk P w K mg base CX0 20 f fd ["_law_script"] (toSp K (LF 1 f_law)) := (by
  refine fn_dl F sc_law (fun cdv A outer s H E hr => ?_)
  have hu64 := hr.units
  have hu65 : (A.deeper (envOfC "law" (defScope s_law) s.heap.objs.size f cdv)).units + 65 < cLine := by have := hr.un; omega
  have hu1 : (A.deeper (envOfC "law" (defScope s_law) s.heap.objs.size f cdv)).units + 1 < cLine := by have := hr.un; omega
  refine ⟨_, (pss_cons (ps_for PassesOwn.never rfl (pi_range1 (by rfl) B.m_range (pa_cons (pe_callB (cr_maxAK (K := K) rfl rfl) (by rfl) B.m_max (by decide +kernel) (pa_cons pe_int (pa_cons (pe_callB (cr_minAK (K := K) rfl rfl) (by rfl) B.m_min (by decide +kernel) (pa_cons (pe_callB (cr_lenK (K := K) rfl) (by rfl) B.m_len (by decide +kernel) (pa_cons (pv 0) pa_nil)) (pa_cons pe_int pa_nil))) pa_nil))) pa_nil)) (pg_name (i := 1) sc_law.nd rfl (by first | exact Or.inl rfl | exact Or.inr rfl)) (pss_cons (ps_set (i := 2) sc_law.nd rfl (by first | exact Or.inl rfl | exact Or.inr rfl) (pe_fK (K := K) rfl (c__law_digits B) hr (by decide) (by rfl) (pa_cons (pe_fK (K := K) rfl (c__law_cell B) hr (by decide) (by rfl) (pa_cons (pv 0) (pa_cons (pv 1) pa_nil))) (pa_cons (pe_op (op_timesK (K := K) rfl) pe_int (pv 1)) pa_nil)))) (pss_cons (ps_set (i := 3) sc_law.nd rfl (by first | exact Or.inl rfl | exact Or.inr rfl) (pe_fK (K := K) rfl (c__law_things B) hr (by decide) (by rfl) (pa_cons (pv 2) (pa_cons (pe_fK (K := K) rfl (c__law_pick B) hr (by decide) (by rfl) (pa_cons (pv 2) (pa_cons pe_int pa_nil))) pa_nil)))) (pss_cons (ps_set (i := 4) sc_law.nd rfl (by first | exact Or.inl rfl | exact Or.inr rfl) (pe_ix (ix_allK (K := K) rfl) (pe_lst (pa_cons (pe_lst pa_nil) (pa_cons (pe_lst (pa_cons (pe_tup (pa_cons pe_str (pa_cons (pe_lst pa_nil) pa_nil))) pa_nil)) (pa_cons (pe_lst (pa_cons (pe_tup (pa_cons pe_str (pa_cons (pe_lst pa_nil) (pa_cons pe_str (pa_cons pe_int pa_nil))))) pa_nil)) pa_nil)))) (pe_fK (K := K) rfl (c__law_pick B) hr (by decide) (by rfl) (pa_cons (pv 2) (pa_cons pe_int pa_nil))) (fun _ _ => rfl))) (pss_cons (ps_set (i := 5) sc_law.nd rfl (by first | exact Or.inl rfl | exact Or.inr rfl) (pe_fK (K := K) rfl (c__law_copy B 3) hr (by decide) (by rfl) (pa_cons (pv 3) pa_nil))) (pss_cons (ps_set (i := 6) sc_law.nd rfl (by first | exact Or.inl rfl | exact Or.inr rfl) (pe_callB (cr_lenK (K := K) rfl) (by rfl) B.m_len (by decide +kernel) (pa_cons (pv 3) pa_nil))) (pss_cons (ps_for PassesOwn.never rfl (pi_range1 (by rfl) B.m_range (pa_cons (pe_op (op_plusK (K := K) rfl) pe_int (pe_fK (K := K) rfl (c__law_pick B) hr (by decide) (by rfl) (pa_cons (pv 2) (pa_cons pe_int pa_nil)))) pa_nil)) (pg_name (i := 7) sc_law.nd rfl (by first | exact Or.inl rfl | exact Or.inr rfl)) (pss_cons (ps_set (i := 8) sc_law.nd rfl (by first | exact Or.inl rfl | exact Or.inr rfl) (pe_fK (K := K) rfl (c__law_pick B) hr (by decide) (by rfl) (pa_cons (pv 2) (pa_cons (pe_callB (cr_lenK (K := K) rfl) (by rfl) B.m_len (by decide +kernel) (pa_cons (pv 3) pa_nil)) pa_nil)))) (pss_cons (ps_asg (pe_fK (K := K) rfl (c__law_spoilt B) hr (by decide) (by rfl) (pa_cons (pv 2) (pa_cons (pv 3) (pa_cons (pv 8) pa_nil)))) (pg_sub (pv 5) (pv 8) set_list)) (pss_one (ps_set (i := 6) sc_law.nd rfl (by first | exact Or.inl rfl | exact Or.inr rfl) (pe_callB (cr_minAK (K := K) rfl rfl) (by rfl) B.m_min (by decide +kernel) (pa_cons (pv 6) (pa_cons (pv 8) pa_nil)))))))) (pss_cons (ps_if (pt_cmpR (op_NEK (K := K) rfl hu64) (pe_fK (K := K) rfl (c__law_refused B) hr (by decide) (by rfl) (pa_cons (pv 5) (pa_cons (pv 4) pa_nil))) (pe_tup (pa_cons pe_str (pa_cons (pv 6) pa_nil))) (nomark _)) (pss_one (ps_ret pe_bl)) pss_nil) (pss_consI (ps_if (pt_cmpR op_gt (pe_callB (cr_lenK (K := K) rfl) (by rfl) B.m_len (by decide +kernel) (pa_cons (pv 3) pa_nil)) pe_int (nomark _)) (pss_cons (ps_set (i := 8) sc_law.nd rfl (by first | exact Or.inl rfl | exact Or.inr rfl) (pe_op (op_plusK (K := K) rfl) pe_int (pe_fK (K := K) rfl (c__law_pick B) hr (by decide) (by rfl) (pa_cons (pv 2) (pa_cons (pe_op op_sub (pe_callB (cr_lenK (K := K) rfl) (by rfl) B.m_len (by decide +kernel) (pa_cons (pv 3) pa_nil)) pe_int) pa_nil))))) (pss_cons (ps_set (i := 9) sc_law.nd rfl (by first | exact Or.inl rfl | exact Or.inr rfl) (pe_fK (K := K) rfl (c__law_copy B 3) hr (by decide) (by rfl) (pa_cons (pv 3) pa_nil))) (pss_cons (ps_asg (pe_tup (pa_cons (pe_ix (ix_allK (K := K) rfl) (pe_ix (ix_allK (K := K) rfl) (pv 3) (pe_fK (K := K) rfl (c__law_pick B) hr (by decide) (by rfl) (pa_cons (pv 2) (pa_cons (pv 8) pa_nil))) (fun _ _ => rfl)) pe_int (fun _ _ => rfl)) (pa_cons (pe_ix (ix_allK (K := K) rfl) (pe_ix (ix_allK (K := K) rfl) (pv 3) (pv 8) (fun _ _ => rfl)) pe_int (fun _ _ => rfl)) pa_nil))) (pg_sub (pv 9) (pv 8) set_list)) (pss_one (ps_if (pt_cmpR (op_NEK (K := K) rfl hu64) (pe_fK (K := K) rfl (c__law_refused B) hr (by decide) (by rfl) (pa_cons (pv 9) (pa_cons (pv 4) pa_nil))) (pe_tup (pa_cons pe_str (pa_cons (pv 8) pa_nil))) (nomark _)) (pss_one (ps_ret pe_bl)) pss_nil))))) pss_nil) (pss_one (ps_if (pt_cmpR op_ISNOT (pe_fK (K := K) rfl (c__law_refused B) hr (by decide) (by rfl) (pa_cons (pe_fK (K := K) rfl (c__law_copy B 3) hr (by decide) (by rfl) (pa_cons (pv 3) pa_nil)) (pa_cons (pe_lst pa_nil) pa_nil))) pe_non (nomark _)) (pss_one (ps_ret pe_bl)) pss_nil))))))))))) (pss_one (ps_ret pe_bl))), fun xs m Z h => ?_⟩
  clear hr hu64 hu65 hu1
  change ARS K _ (List.map some xs ++ List.replicate (10 - xs.length) none) m _
  -- slots: 0=_law_script 1=_law_k 2=_law_d 3=_law_things_here 4=_law_rules 5=_law_spoilt_here 6=_law_first 7=_law_turn 8=_law_at 9=_law_double
  obtain ⟨ns, rfl, hns, q⟩ := h
  ((with_reducible refine ars_seq ?_); (with_reducible refine ars_forP ?_); (with_reducible refine ari_range1 ?_); (with_reducible refine ara_cons ?_); (with_reducible refine ar_cb ?_); (with_reducible refine ara_cons ?_); (with_reducible refine ar_int ?_); (with_reducible refine ara_cons ?_); (with_reducible refine ar_cb ?_); (with_reducible refine ara_cons ?_); (with_reducible refine ar_cb ?_); (with_reducible refine ara_cons ?_); (((with_reducible refine' ar_var ?hvz326 ?_); (case hvz326 => exact rfl))); (with_reducible refine ara_nil ?_); (with_reducible refine len_scr ?_); (with_reducible refine ara_cons ?_); (with_reducible refine ar_int ?_); (with_reducible refine ara_nil ?_); (with_reducible refine min2_i ?_); (with_reducible refine ara_nil ?_); (with_reducible refine max2_i ?_); (with_reducible refine ara_nil ?_); (refine ⟨_, rfl, ⟨by omega, by omega⟩, ?_⟩); (dsimp only))
  refine for_r0 (fun i Γ' m' => ∃ o1 o2 o3 o4 o5 o6 o7 o8 o9, Γ' = [some (.scr ns), o1, o2, o3, o4, o5, o6, o7, o8, o9]) ⟨_, _, _, _, _, _, _, _, _, rfl⟩ (fun i Γ' m' hi h => ?_) (fun Γ' m' h => ?_)
  · obtain ⟨o1, o2, o3, o4, o5, o6, o7, o8, o9, rfl⟩ := h
    have hi2 : i < 64 := by revert hi; repeat' split <;> omega
    ((with_reducible refine arg_name ?_); (with_reducible refine ars_seq ?_); (with_reducible refine ars_asg ?_); (with_reducible refine ar_call ?_); (with_reducible refine ara_cons ?_); (with_reducible refine ar_call ?_); (with_reducible refine ara_cons ?_); (((with_reducible refine' ar_var ?hvz327 ?_); (case hvz327 => exact rfl))); (with_reducible refine ara_cons ?_); (((with_reducible refine' ar_var ?hvz328 ?_); (case hvz328 => exact rfl))); (with_reducible refine ara_nil ?_); (((with_reducible refine' lf_in ?hvz329 ?_); (case hvz329 => exact rfl))); (dsimp only))
    refine ⟨ns, (i : Int), rfl, by omega, fun c0 => ?_⟩
    ((with_reducible refine ara_cons ?_); (with_reducible refine ar_op ?_); (with_reducible refine ar_int ?_); (((with_reducible refine' ar_var ?hvz330 ?_); (case hvz330 => exact rfl))); (((with_reducible refine' times_a ?hvz332 ?hwz331 ?_); (case hvz332 => omega); (case hwz331 => omega))); (with_reducible refine ara_nil ?_); (((with_reducible refine' lf_in ?hvz333 ?_); (case hvz333 => exact rfl))))
    refine ⟨c0, 40 * (i : Int), rfl, by omega, fun p c hp hd => ?_⟩
    ((with_reducible refine arg_name ?_); (with_reducible refine ars_seq ?_); (with_reducible refine ars_asg ?_); (with_reducible refine ar_call ?_); (with_reducible refine ara_cons ?_); (((with_reducible refine' ar_var ?hvz334 ?_); (case hvz334 => exact rfl))); (with_reducible refine ara_cons ?_); (with_reducible refine ar_call ?_); (with_reducible refine ara_cons ?_); (((with_reducible refine' ar_var ?hvz335 ?_); (case hvz335 => exact rfl))); (with_reducible refine ara_cons ?_); (with_reducible refine ar_int ?_); (with_reducible refine ara_nil ?_); (((with_reducible refine' lf_in ?hvz336 ?_); (case hvz336 => exact rfl))); (((with_reducible refine' use_pick ?hmz338 ?hdz337 ?hzz341 ?h0z339 ?h1z340 ?_); (case hmz338 => walk_at "mem"); (case hdz337 => assumption); (case hzz341 => omega); (case h0z339 => first | omega | (simp only [List.length_map, List.length_append, List.length_cons, List.length_nil, List.length_range]; omega)); (case h1z340 => first | omega | (simp only [List.length_map, List.length_append, List.length_cons, List.length_nil, List.length_range]; omega)); intro _ _ _ _ _)); (with_reducible refine ara_nil ?_); (((with_reducible refine' lf_in ?hvz342 ?_); (case hvz342 => exact rfl))); (rw [mset_mset]); (dsimp only))
    rename_i r1 c1 g10 g11 hd1
    refine ⟨p, c1, 40 * (i : Int) + 1, r1, rfl, mset_same, hd1, by omega, by omega, by omega, fun ts c2 ht1 ht2 hto htv htn hd2 => ?_⟩
    have hg : Gd ts := ⟨hto, htv, htn⟩
    rw [mset_mset]
    ((with_reducible refine arg_name ?_); (with_reducible refine ars_seq ?_); (with_reducible refine ars_asg ?_); (with_reducible refine ar_op ?_); (with_reducible refine ar_lstD ?_); (with_reducible refine ara_cons ?_); (with_reducible refine ar_lstD ?_); (with_reducible refine ara_nil ?_); (with_reducible refine ex_ds0 ?_); (walk_at "s1"); (with_reducible refine ara_cons ?_); (with_reducible refine ar_lstD ?_); (with_reducible refine ara_cons ?_); (with_reducible refine ar_tup ?_); (with_reducible refine ara_cons ?_); (with_reducible refine ar_str ?_); (with_reducible refine ara_cons ?_); (with_reducible refine ar_lstD ?_); (with_reducible refine ara_nil ?_); (with_reducible refine ex_ds0 ?_); (walk_at "s1"); (with_reducible refine ara_nil ?_); (with_reducible refine ex_ds2 ?_); (walk_at "s1"); (with_reducible refine ara_nil ?_); (with_reducible refine ex_ds1 ?_); (walk_at "s1"); (with_reducible refine ara_cons ?_); (with_reducible refine ar_lstD ?_); (with_reducible refine ara_cons ?_); (with_reducible refine ar_tup ?_); (with_reducible refine ara_cons ?_); (with_reducible refine ar_str ?_); (with_reducible refine ara_cons ?_); (with_reducible refine ar_lstD ?_); (with_reducible refine ara_nil ?_); (with_reducible refine ex_ds0 ?_); (walk_at "s1"); (with_reducible refine ara_cons ?_); (with_reducible refine ar_str ?_); (with_reducible refine ara_cons ?_); (with_reducible refine ar_int ?_); (with_reducible refine ara_nil ?_); (with_reducible refine ex_ds4 ?_); (walk_at "s1"); (with_reducible refine ara_nil ?_); (with_reducible refine ex_ds1 ?_); (walk_at "s1"); (with_reducible refine ara_nil ?_); (with_reducible refine ex_ds3 ?_); (walk_at "s1"); (with_reducible refine ar_call ?_); (with_reducible refine ara_cons ?_); (((with_reducible refine' ar_var ?hvz343 ?_); (case hvz343 => exact rfl))); (with_reducible refine ara_cons ?_); (with_reducible refine ar_int ?_); (with_reducible refine ara_nil ?_); (((with_reducible refine' lf_in ?hvz344 ?_); (case hvz344 => exact rfl))); (((with_reducible refine' use_pick ?hmz346 ?hdz345 ?hzz349 ?h0z347 ?h1z348 ?_); (case hmz346 => walk_at "mem"); (case hdz345 => assumption); (case hzz349 => omega); (case h0z347 => first | omega | (simp only [List.length_map, List.length_append, List.length_cons, List.length_nil, List.length_range]; omega)); (case h1z348 => first | omega | (simp only [List.length_map, List.length_append, List.length_cons, List.length_nil, List.length_range]; omega)); intro _ _ _ _ _)); (rw [mset_mset]); (dsimp only))
    rename_i r2 c3 g20 g21 hd3
    refine ix_any_l g20 (by first | exact g21 | simpa using g21) (fun rs hrs => ?_)
    ((with_reducible refine arg_name ?_); (with_reducible refine ars_seq ?_); (with_reducible refine ars_asg ?_); (with_reducible refine ar_call ?_); (with_reducible refine ara_cons ?_); (((with_reducible refine' ar_var ?hvz350 ?_); (case hvz350 => exact rfl))); (with_reducible refine ara_nil ?_); (((with_reducible refine' lf_in ?hvz351 ?_); (case hvz351 => exact rfl))); (refine ⟨_, rfl, ?_⟩); (dsimp only))
    refine ⟨sm_dThs (by omega) hto, .inr ⟨_, rfl, fun p2 hp2 => ?_⟩⟩
    obtain ⟨ne2, hp2'⟩ := mset_nn hp2
    ((with_reducible refine arg_name ?_); (with_reducible refine ars_seq ?_); (with_reducible refine ars_asg ?_); (with_reducible refine ar_cb ?_); (with_reducible refine ara_cons ?_); (((with_reducible refine' ar_var ?hvz352 ?_); (case hvz352 => exact rfl))); (with_reducible refine ara_nil ?_); (with_reducible refine len_l ?_); (with_reducible refine arg_name ?_); (with_reducible refine ars_seq ?_); (with_reducible refine ars_forP ?_); (with_reducible refine ari_range1 ?_); (with_reducible refine ara_cons ?_); (with_reducible refine ar_op ?_); (with_reducible refine ar_int ?_); (with_reducible refine ar_call ?_); (with_reducible refine ara_cons ?_); (((with_reducible refine' ar_var ?hvz353 ?_); (case hvz353 => exact rfl))); (with_reducible refine ara_cons ?_); (with_reducible refine ar_int ?_); (with_reducible refine ara_nil ?_); (((with_reducible refine' lf_in ?hvz354 ?_); (case hvz354 => exact rfl))); (((with_reducible refine' use_pick ?hmz356 ?hdz355 ?hzz359 ?h0z357 ?h1z358 ?_); (case hmz356 => walk_at "mem"); (case hdz355 => assumption); (case hzz359 => omega); (case h0z357 => first | omega | (simp only [List.length_map, List.length_append, List.length_cons, List.length_nil, List.length_range]; omega)); (case h1z358 => first | omega | (simp only [List.length_map, List.length_append, List.length_cons, List.length_nil, List.length_range]; omega)); intro _ _ _ _ _)); (with_reducible refine plus_i ?_); (with_reducible refine ara_nil ?_); (refine ⟨_, rfl, ⟨by omega, by omega⟩, ?_⟩); (rw [mset_swap (by first | assumption | exact Ne.symm (by assumption))]); (dsimp only))
    rename_i r3 c4 g30 g31 hd4
    refine for_r0 (fun t Γ' m2 => ∃ (ds : List PyData) (f : Nat) (c' : C) (o7 o8 : Option S), Γ' = [some (.scr ns), some (.d (.int (i : Nat))), some (.r p), some (.d (dThs ts)), some (.d rs), some (.r p2), some (.d (.int (f : Nat))), o7, o8, o9] ∧ m2 = mset (mset m' p c') p2 (.lst (ds.map S.d)) ∧ DgD c' (40 * (i : Int) + 410 + 2 * t) ∧ Sp ts ds f ∧ (0 < t → f < ts.length)) ⟨ts.map dTh, ts.length, c4, _, _, by first | rfl | (rw [List.length_map]; rfl), by first | rfl | rw [mset_swap ne2], dd_to hd4 (by omega), sp_0, fun h => absurd h (by decide)⟩ (fun t Γ' m2 ht h => ?_) (fun Γ' m2 h => ?_)
    · obtain ⟨ds, f, c', o7, o8, rfl, rfl, hd5, hsp, hf⟩ := h
      ((with_reducible refine arg_name ?_); (with_reducible refine ars_seq ?_); (with_reducible refine ars_asg ?_); (with_reducible refine ar_call ?_); (with_reducible refine ara_cons ?_); (((with_reducible refine' ar_var ?hvz360 ?_); (case hvz360 => exact rfl))); (with_reducible refine ara_cons ?_); (with_reducible refine ar_cb ?_); (with_reducible refine ara_cons ?_); (((with_reducible refine' ar_var ?hvz361 ?_); (case hvz361 => exact rfl))); (with_reducible refine ara_nil ?_); (with_reducible refine len_l ?_); (with_reducible refine ara_nil ?_); (((with_reducible refine' lf_in ?hvz362 ?_); (case hvz362 => exact rfl))); (((with_reducible refine' use_pick ?hmz364 ?hdz363 ?hzz367 ?h0z365 ?h1z366 ?_); (case hmz364 => walk_at "mem"); (case hdz363 => assumption); (case hzz367 => omega); (case h0z365 => first | omega | (simp only [List.length_map, List.length_append, List.length_cons, List.length_nil, List.length_range]; omega)); (case h1z366 => first | omega | (simp only [List.length_map, List.length_append, List.length_cons, List.length_nil, List.length_range]; omega)); intro _ _ _ _ _)); (with_reducible refine arg_name ?_); (with_reducible refine ars_seq ?_); (with_reducible refine ars_asg ?_); (with_reducible refine ar_call ?_); (with_reducible refine ara_cons ?_); (((with_reducible refine' ar_var ?hvz368 ?_); (case hvz368 => exact rfl))); (with_reducible refine ara_cons ?_); (((with_reducible refine' ar_var ?hvz369 ?_); (case hvz369 => exact rfl))); (with_reducible refine ara_cons ?_); (((with_reducible refine' ar_var ?hvz370 ?_); (case hvz370 => exact rfl))); (with_reducible refine ara_nil ?_); (((with_reducible refine' lf_in ?hvz371 ?_); (case hvz371 => exact rfl))); (rw [mset_swap (by first | assumption | exact Ne.symm (by assumption))]); (dsimp only))
      rename_i r5 c5 g50 g51 hd6
      obtain ⟨k, rfl⟩ := Int.eq_ofNat_of_zero_le g50
      have hk : k < ts.length := by first | omega | (simp at g51; omega)
      refine use_spoilt (by walk_at "mem") hd6 (by omega) hk hto htv (fun d c6 hb hd7 => ?_)
      rw [mset_swap ne2]
      ((with_reducible refine arg_sub ?_); (((with_reducible refine' ar_var ?hvz372 ?_); (case hvz372 => exact rfl))); (((with_reducible refine' ar_var ?hvz373 ?_); (case hvz373 => exact rfl))))
      refine setn_o (xs := ds.map S.d) mset_same (by rw [List.length_map, hsp.len]; exact hk) ?_
      rw [mset_mset]
      ((with_reducible refine ars_asg ?_); (with_reducible refine ar_cb ?_); (with_reducible refine ara_cons ?_); (((with_reducible refine' ar_var ?hvz374 ?_); (case hvz374 => exact rfl))); (with_reducible refine ara_cons ?_); (((with_reducible refine' ar_var ?hvz375 ?_); (case hvz375 => exact rfl))); (with_reducible refine ara_nil ?_); (with_reducible refine min2_i ?_); (with_reducible refine arg_name ?_); (dsimp only))
      have hle := hsp.le
      have hmin : (if (k : Int) < f then (k : Int) else f) = ((min f k : Nat) : Int) := by split <;> omega
      rw [hmin]
      exact ⟨ds.set k d, min f k, c6, _, _, rfl, by rw [List.map_set], dd_to hd7 (by omega), sp_set hsp hk hb, fun _ => by omega⟩
    · obtain ⟨ds, f, c', o7, o8, rfl, rfl, hd5, hsp, hf⟩ := h
      have hf := hf (by omega)
      have hfz := (mset_ne (c := c') (Ne.symm ne2)).trans hp2'
      refine ars_frz (i := 5) (m2 := mset m' p c') (Le.set hfz) rfl (rp_lst (xs := ds) (f := id) mset_same hfz) ?_
      try dsimp only [List.set]
      rw [List.map_id]
      obtain ⟨d, post, hds, hb, hpl⟩ := sp_split hsp hf
      subst hds
      ((with_reducible refine ars_seq ?_); (with_reducible refine ars_if ?_); (with_reducible refine art_test ?_); (with_reducible refine ar_op ?_); (with_reducible refine ar_call ?_); (with_reducible refine ara_cons ?_); (((with_reducible refine' ar_var ?hvz376 ?_); (case hvz376 => exact rfl))); (with_reducible refine ara_cons ?_); (((with_reducible refine' ar_var ?hvz377 ?_); (case hvz377 => exact rfl))); (with_reducible refine ara_nil ?_); (((with_reducible refine' lf_in ?hvz378 ?_); (case hvz378 => exact rfl))); (dsimp only))
      have htf : (ts.take f).length = f := by rw [List.length_take]; have := hsp.le; omega
      refine ⟨ts.take f, d :: post, rs, rfl, by rw [htf, List.length_cons]; omega, gd_take hg, .inr ⟨d, post, rfl, .inl hb, ?_⟩⟩
      rw [htf]
      ((with_reducible refine ar_tup ?_); (with_reducible refine ara_cons ?_); (with_reducible refine ar_str ?_); (with_reducible refine ara_cons ?_); (((with_reducible refine' ar_var ?hvz379 ?_); (case hvz379 => exact rfl))); (with_reducible refine ara_nil ?_); (with_reducible refine ex_ds2 ?_); (walk_at "s1"))
      refine ne_self sh_tf ?_
      ((refine ⟨_, rfl, ?_⟩); (with_reducible refine L2.iteF ?_); (with_reducible refine ars_next ?_); (dsimp only))
      refine ars_cutI (fun Γ' m2 => ∃ (c' : C) (o7 o8 o9 : Option S) (ds : S) (f : S), Γ' = [some (.scr ns), some (.d (.int (i : Nat))), some (.r p), some (.d (dThs ts)), some (.d rs), some ds, some f, o7, o8, o9] ∧ m2 = mset m' p c' ∧ DgD c' (40 * (i : Int) + 500)) ?_ (fun Γ' m2 h => ?_)
      · ((with_reducible refine ars_if ?_); (with_reducible refine art_test ?_); (with_reducible refine ar_op ?_); (with_reducible refine ar_cb ?_); (with_reducible refine ara_cons ?_); (((with_reducible refine' ar_var ?hvz380 ?_); (case hvz380 => exact rfl))); (with_reducible refine ara_nil ?_); (with_reducible refine len_l ?_); (with_reducible refine ar_int ?_); (with_reducible refine lo_b0 ?_); (refine ⟨_, rfl, ?_⟩); (dsimp only))
        refine iteD (fun hc => ?_) (fun hc => ?_)
        · ((with_reducible refine ars_seq ?_); (with_reducible refine ars_asg ?_); (with_reducible refine ar_op ?_); (with_reducible refine ar_int ?_); (with_reducible refine ar_call ?_); (with_reducible refine ara_cons ?_); (((with_reducible refine' ar_var ?hvz381 ?_); (case hvz381 => exact rfl))); (with_reducible refine ara_cons ?_); (with_reducible refine ar_op ?_); (with_reducible refine ar_cb ?_); (with_reducible refine ara_cons ?_); (((with_reducible refine' ar_var ?hvz382 ?_); (case hvz382 => exact rfl))); (with_reducible refine ara_nil ?_); (with_reducible refine len_l ?_); (with_reducible refine ar_int ?_); (with_reducible refine lo_i0 ?_); (with_reducible refine ara_nil ?_); (((with_reducible refine' lf_in ?hvz383 ?_); (case hvz383 => exact rfl))); (((with_reducible refine' use_pick ?hmz385 ?hdz384 ?hzz388 ?h0z386 ?h1z387 ?_); (case hmz385 => walk_at "mem"); (case hdz384 => assumption); (case hzz388 => omega); (case h0z386 => first | omega | (simp only [List.length_map, List.length_append, List.length_cons, List.length_nil, List.length_range]; omega)); (case h1z387 => first | omega | (simp only [List.length_map, List.length_append, List.length_cons, List.length_nil, List.length_range]; omega)); intro _ _ _ _ _)); (with_reducible refine plus_i ?_); (with_reducible refine arg_name ?_); (with_reducible refine ars_seq ?_); (with_reducible refine ars_asg ?_); (with_reducible refine ar_call ?_); (with_reducible refine ara_cons ?_); (((with_reducible refine' ar_var ?hvz389 ?_); (case hvz389 => exact rfl))); (with_reducible refine ara_nil ?_); (((with_reducible refine' lf_in ?hvz390 ?_); (case hvz390 => exact rfl))); (refine ⟨_, rfl, ?_⟩); (rw [mset_mset]); (dsimp only))
          rename_i r6 c7 g60 g61 hd8
          obtain ⟨k6, rfl⟩ := Int.eq_ofNat_of_zero_le g60
          have hk6 : 1 + k6 < ts.length := by first | omega | (simp at g61; omega)
          rw [show 1 + (k6 : Int) = ((1 + k6 : Nat) : Int) by omega]
          skip
          refine ⟨sm_dThs (by omega) hto, .inr ⟨_, rfl, fun p3 hp3 => ?_⟩⟩
          obtain ⟨ne3, hp3'⟩ := mset_nn hp3
          ((with_reducible refine arg_name ?_); (with_reducible refine ars_seq ?_); (with_reducible refine ars_asg ?_); (with_reducible refine ar_tup ?_); (with_reducible refine ara_cons ?_); (with_reducible refine ar_op ?_); (with_reducible refine ar_op ?_); (((with_reducible refine' ar_var ?hvz391 ?_); (case hvz391 => exact rfl))); (with_reducible refine ar_call ?_); (with_reducible refine ara_cons ?_); (((with_reducible refine' ar_var ?hvz392 ?_); (case hvz392 => exact rfl))); (with_reducible refine ara_cons ?_); (((with_reducible refine' ar_var ?hvz393 ?_); (case hvz393 => exact rfl))); (with_reducible refine ara_nil ?_); (((with_reducible refine' lf_in ?hvz394 ?_); (case hvz394 => exact rfl))); (((with_reducible refine' use_pick ?hmz396 ?hdz395 ?hzz399 ?h0z397 ?h1z398 ?_); (case hmz396 => walk_at "mem"); (case hdz395 => assumption); (case hzz399 => omega); (case h0z397 => first | omega | (simp only [List.length_map, List.length_append, List.length_cons, List.length_nil, List.length_range]; omega)); (case h1z398 => first | omega | (simp only [List.length_map, List.length_append, List.length_cons, List.length_nil, List.length_range]; omega)); intro _ _ _ _ _)); (rw [mset_swap (by first | assumption | exact Ne.symm (by assumption))]); (dsimp only))
          rename_i r7 c8 g70 g71 hd9
          obtain ⟨k7, rfl⟩ := Int.eq_ofNat_of_zero_le g70
          have hk7 : k7 < 1 + k6 := by omega
          have e7 := List.getElem?_eq_getElem (show k7 < ts.length by omega)
          have e6 := List.getElem?_eq_getElem hk6
          refine ix_l (atm e7) ?_
          ((with_reducible refine ar_int ?_); (((with_reducible refine' ix_t ?hvz400 ?_); (case hvz400 => exact rfl))); (with_reducible refine ara_cons ?_); (with_reducible refine ar_op ?_); (with_reducible refine ar_op ?_); (((with_reducible refine' ar_var ?hvz401 ?_); (case hvz401 => exact rfl))); (((with_reducible refine' ar_var ?hvz402 ?_); (case hvz402 => exact rfl))))
          refine ix_l (atm e6) ?_
          ((with_reducible refine ar_int ?_); (((with_reducible refine' ix_t ?hvz403 ?_); (case hvz403 => exact rfl))); (with_reducible refine ara_nil ?_); (with_reducible refine ex_ds2 ?_); (walk_at "s1"); (with_reducible refine arg_sub ?_); (((with_reducible refine' ar_var ?hvz404 ?_); (case hvz404 => exact rfl))); (((with_reducible refine' ar_var ?hvz405 ?_); (case hvz405 => exact rfl))))
          refine setn_o (xs := (ts.map dTh).map S.d) (by walk_at "mem") (by rw [List.length_map, List.length_map]; exact hk6) ?_
          have hz3 : mset m' p c8 p3 = none := by rw [mset_ne (Ne.symm ne3)]; exact hp3'
          rw [mset_mset, ← List.map_set]
          refine ars_frz (i := 9) (m2 := mset m' p c8) (Le.set hz3) rfl (rp_lst (f := id) mset_same hz3) ?_
          try dsimp only [List.set]
          rw [List.map_id]
          have hset : (ts.map dTh).set (1 + k6) (.tuple [.str ts[k7].1, dI ts[1 + k6].2]) = (ts.take (1 + k6)).map dTh ++ dTh (ts[k7].1, ts[1 + k6].2) :: (ts.drop (1 + k6 + 1)).map dTh := by
            rw [List.set_eq_take_append_cons_drop, if_pos (by rw [List.length_map]; exact hk6), List.map_take, List.map_drop]
          have htk : (ts.take (1 + k6)).length = 1 + k6 := by rw [List.length_take]; omega
          have m6 := List.getElem_mem hk6
          have m7 := List.getElem_mem (show k7 < ts.length by omega)
          ((with_reducible refine ars_if ?_); (with_reducible refine art_test ?_); (with_reducible refine ar_op ?_); (with_reducible refine ar_call ?_); (with_reducible refine ara_cons ?_); (((with_reducible refine' ar_var ?hvz406 ?_); (case hvz406 => exact rfl))); (with_reducible refine ara_cons ?_); (((with_reducible refine' ar_var ?hvz407 ?_); (case hvz407 => exact rfl))); (with_reducible refine ara_nil ?_); (((with_reducible refine' lf_in ?hvz408 ?_); (case hvz408 => exact rfl))))
          refine ⟨ts.take (1 + k6), dTh (ts[k7].1, ts[1 + k6].2) :: (ts.drop (1 + k6 + 1)).map dTh, rs, by rw [hset], by rw [htk, List.length_cons, List.length_map, List.length_drop]; omega, gd_take hg, .inr ⟨_, _, rfl, .inr ⟨(ts[k7].1, ts[1 + k6].2), rfl, ⟨(hto _ m6).1, (hto _ m6).2⟩, ⟨(htv _ m7).1, (htv _ m6).2⟩, List.mem_map.mpr ⟨ts[k7], List.mem_of_getElem? (i := k7) (by rw [List.getElem?_take, if_pos hk7]; exact e7), rfl⟩⟩, ?_⟩⟩
          rw [htk]
          ((with_reducible refine ar_tup ?_); (with_reducible refine ara_cons ?_); (with_reducible refine ar_str ?_); (with_reducible refine ara_cons ?_); (((with_reducible refine' ar_var ?hvz409 ?_); (case hvz409 => exact rfl))); (with_reducible refine ara_nil ?_); (with_reducible refine ex_ds2 ?_); (walk_at "s1"))
          refine ne_self sh_tf ?_
          ((refine ⟨_, rfl, ?_⟩); (with_reducible refine L2.iteF ?_); (with_reducible refine ars_next ?_); (dsimp only))
          exact ⟨_, _, _, _, _, _, rfl, rfl, dd_to hd9 (by omega)⟩
        · ((with_reducible refine ars_next ?_); (dsimp only))
          exact ⟨_, _, _, _, _, _, rfl, rfl, dd_to hd5 (by omega)⟩
      · obtain ⟨c', o7, o8, o9, ds, f, rfl, rfl, hd8⟩ := h
        ((with_reducible refine ars_if ?_); (with_reducible refine art_test ?_); (with_reducible refine ar_op ?_); (with_reducible refine ar_call ?_); (with_reducible refine ara_cons ?_); (with_reducible refine ar_call ?_); (with_reducible refine ara_cons ?_); (((with_reducible refine' ar_var ?hvz410 ?_); (case hvz410 => exact rfl))); (with_reducible refine ara_nil ?_); (((with_reducible refine' lf_in ?hvz411 ?_); (case hvz411 => exact rfl))); (refine ⟨_, rfl, ?_⟩); (dsimp only))
        refine ⟨sm_dThs (by omega) hto, .inl ?_⟩
        ((with_reducible refine ara_cons ?_); (with_reducible refine ar_lstD ?_); (with_reducible refine ara_nil ?_); (with_reducible refine ex_ds0 ?_); (walk_at "s1"); (with_reducible refine ara_nil ?_); (((with_reducible refine' lf_in ?hvz412 ?_); (case hvz412 => exact rfl))))
        refine ⟨ts, [], _, by rw [List.append_nil], by simp; omega, hg, .inl ⟨rfl, rfl, ?_⟩⟩
        ((with_reducible refine ar_non ?_); (with_reducible refine isnot_non ?_); (refine ⟨_, rfl, ?_⟩); (((with_reducible refine' iteFd ?hvz413 ?_); (case hvz413 => decide +kernel))); (with_reducible refine ars_next ?_); (dsimp only))
        exact ⟨_, _, _, _, _, _, _, _, _, rfl⟩
  · obtain ⟨o1, o2, o3, o4, o5, o6, o7, o8, o9, rfl⟩ := h
    ((with_reducible refine ars_ret ?_); (with_reducible refine ar_bl ?_); (dsimp only))
    exact rt_id (q _))
theorem law_pre (ns : List Int) (h : ns.length ≤ 63) : f_law [.scr ns] m0 fun x _ => x = .d (.bool true) := ⟨ns, rfl, h, fun _ => rfl⟩
end
set_option maxHeartbeats 0 in
theorem all_mk {K : PySem.W.Frag} {h : Heap} {mg : Str → Option Value} (X : K.In h) (G : h.Ns mainGlobals mg)
    {f0 f1 f2 f3 f4 f5 f6 f7 f8 f9 f10 f11 f12 f13 f14 f15 f16 f17 f18 f19 f20 : Addr} {od0 an0 od1 an1 od2 an2 od3 an3 od4 an4 od5 an5 od6 an6 od7 an7 od8 an8 od9 an9 od10 an10 od11 an11 od12 an12 od13 an13 od14 an14 od15 an15 od16 an16 od17 an17 od18 an18 od19 an19 od20 an20 : Option Addr} {sl0 sl1 sl2 sl3 sl4 sl5 sl6 sl7 sl8 sl9 sl10 sl11 sl12 sl13 sl14 sl15 sl16 sl17 sl18 sl19 sl20 : Array (Option Value)} {oc0 kV0 dc0 pm0 cd0 ct0 oc1 kV1 dc1 pm1 cd1 ct1 oc2 kV2 dc2 pm2 cd2 ct2 oc3 kV3 dc3 pm3 cd3 ct3 oc4 kV4 dc4 pm4 cd4 ct4 oc5 kV5 dc5 pm5 cd5 ct5 oc6 kV6 dc6 pm6 cd6 ct6 oc7 kV7 dc7 pm7 cd7 ct7 oc8 kV8 dc8 pm8 cd8 ct8 oc9 kV9 dc9 pm9 cd9 ct9 oc10 kV10 dc10 pm10 cd10 ct10 oc11 kV11 dc11 pm11 cd11 ct11 oc12 kV12 dc12 pm12 cd12 ct12 oc13 kV13 dc13 pm13 cd13 ct13 oc14 kV14 dc14 pm14 cd14 ct14 oc15 kV15 dc15 pm15 cd15 ct15 oc16 kV16 dc16 pm16 cd16 ct16 oc17 kV17 dc17 pm17 cd17 ct17 oc18 kV18 dc18 pm18 cd18 ct18 oc19 kV19 dc19 pm19 cd19 ct19 oc20 kV20 dc20 pm20 cd20 ct20 : Value}
    {cA_Choosing : Addr} (aC_Choosing : PySem.W.nsIn K mainGlobals "Choosing" = some (some (.ref cA_Choosing)))
    (pg_Choosing : PySem.W.plainGet K cA_Choosing Str.empty = true) (hd_Choosing : PySem.W.hasDictIn K cA_Choosing = true) (po_Choosing : PySem.W.plainOver K cA_Choosing = true) (sa_Choosing : PySem.W.findIn K (.ref cA_Choosing) "__setattr__" = some (some (.builtin "object.__setattr__"))) (mk_Choosing : PySem.W.makesIn K cA_Choosing = true) (kc_Choosing : PySem.W.keepIn K (.ref cA_Choosing) = true)
    (nA_Choosing_rules : PySem.W.findIn K (.ref cA_Choosing) "rules" = some none)
    (nA_Choosing_things : PySem.W.findIn K (.ref cA_Choosing) "things" = some none)
    {cA_BadRow : Addr} (aC_BadRow : PySem.W.nsIn K mainGlobals "BadRow" = some (some (.ref cA_BadRow)))
    {cA_BadRule : Addr} (aC_BadRule : PySem.W.nsIn K mainGlobals "BadRule" = some (some (.ref cA_BadRule)))
    {cA_BadThing : Addr} (aC_BadThing : PySem.W.nsIn K mainGlobals "BadThing" = some (some (.ref cA_BadThing)))
    {cA_ChoiceError : Addr} (aC_ChoiceError : PySem.W.nsIn K mainGlobals "ChoiceError" = some (some (.ref cA_ChoiceError)))
    {cA_HasAnswer : Addr} (aC_HasAnswer : PySem.W.nsIn K mainGlobals "HasAnswer" = some (some (.ref cA_HasAnswer)))
    {cA_NoChoice : Addr} (aC_NoChoice : PySem.W.nsIn K mainGlobals "NoChoice" = some (some (.ref cA_NoChoice)))
    {cA_NoValue : Addr} (aC_NoValue : PySem.W.nsIn K mainGlobals "NoValue" = some (some (.ref cA_NoValue)))
    {cA_NotStuck : Addr} (aC_NotStuck : PySem.W.nsIn K mainGlobals "NotStuck" = some (some (.ref cA_NotStuck)))
    {cA_Stuck : Addr} (aC_Stuck : PySem.W.nsIn K mainGlobals "Stuck" = some (some (.ref cA_Stuck)))
    {nm_BadRule q_BadRule : Str} {N_BadRule : Addr} {bs_BadRule : List Value} {sn_BadRule : List Str} {sub_BadRule : List Value} {ab_BadRule : Bool} {col_BadRule : Option Bool} {dd_BadRule : Option Addr} {m0_BadRule m1_BadRule m2_BadRule m3_BadRule m5_BadRule : Option Value}
    {nm_BadThing q_BadThing : Str} {N_BadThing : Addr} {bs_BadThing : List Value} {sn_BadThing : List Str} {sub_BadThing : List Value} {ab_BadThing : Bool} {col_BadThing : Option Bool} {dd_BadThing : Option Addr} {m0_BadThing m1_BadThing m2_BadThing m3_BadThing m5_BadThing : Option Value}
    (rd_ChoiceError : PySem.W.readsIn K cA_ChoiceError (.type "type") = true)
    (sg_ChoiceError : PySem.W.specialIn K (.ref cA_ChoiceError) "__getattribute__" = some (some (.builtin "type.__getattribute__")))
    (fc_ChoiceError : PySem.W.findCls K (.ref cA_ChoiceError) (.type "type") "__init__" = some (.val (.builtin "ValueError.__init__")))
    (xL_BadRule : K.lookup cA_BadRule = some (excClassObj nm_BadRule q_BadRule cA_BadRule N_BadRule bs_BadRule [.ref cA_ChoiceError, .type "ValueError", .type "Exception", .type "BaseException", .type "object"] true sn_BadRule sub_BadRule ab_BadRule col_BadRule dd_BadRule m0_BadRule m1_BadRule m2_BadRule m3_BadRule m5_BadRule "ValueError.__new__"))
    (xsa_BadRule : PySem.W.findIn K (.ref cA_BadRule) "__setattr__" = some (some (.builtin "object.__setattr__")))
    (xga_BadRule : PySem.W.findIn K (.ref cA_BadRule) "__getattribute__" = some (some (.builtin "BaseException.__getattribute__")))
    (xgg_BadRule : PySem.W.findIn K (.ref cA_BadRule) "__getattr__" = some none)
    (xno_BadRule : PySem.W.findIn K (.ref cA_BadRule) "place" = some none)
    (xkc_BadRule : PySem.W.keepIn K (.ref cA_BadRule) = true)
    (xex_BadRule : PySem.W.subIn K (.ref cA_BadRule) (.type "BaseException") = some true)
    (xty_BadRule : PySem.W.typeIn K (.ref cA_BadRule) = some (.type "type"))
    (xhd_BadRule : PySem.W.hasDictIn K cA_BadRule = true)
    (xcl_BadRule : PySem.W.findIn K (.ref cA_BadRule) "__class__" = some (some (.builtin "object.__class__")))
    (xmr_BadRule : PySem.W.mroIn K cA_BadRule (.type "object") = some true)
    (em_BadRule_ChoiceError : PySem.W.subIn K (.ref cA_BadRule) (.ref cA_ChoiceError) = some true)
    (ki_BadRule_BadThing : PySem.W.kitOne K (.ref cA_BadRule) (.ref cA_BadThing) = some false)
    (ki_BadRule_BadRule : PySem.W.kitOne K (.ref cA_BadRule) (.ref cA_BadRule) = some true)
    (ki_BadRule_BadRow : PySem.W.kitOne K (.ref cA_BadRule) (.ref cA_BadRow) = some false)
    (ki_BadRule_HasAnswer : PySem.W.kitOne K (.ref cA_BadRule) (.ref cA_HasAnswer) = some false)
    (ki_BadRule_NoChoice : PySem.W.kitOne K (.ref cA_BadRule) (.ref cA_NoChoice) = some false)
    (ki_BadRule_NoValue : PySem.W.kitOne K (.ref cA_BadRule) (.ref cA_NoValue) = some false)
    (ki_BadRule_NotStuck : PySem.W.kitOne K (.ref cA_BadRule) (.ref cA_NotStuck) = some false)
    (ki_BadRule_Stuck : PySem.W.kitOne K (.ref cA_BadRule) (.ref cA_Stuck) = some false)
    (kb_BadRule_ValueError : PySem.W.kitOne K (.ref cA_BadRule) (.type "ValueError") = some true)
    (xL_BadThing : K.lookup cA_BadThing = some (excClassObj nm_BadThing q_BadThing cA_BadThing N_BadThing bs_BadThing [.ref cA_ChoiceError, .type "ValueError", .type "Exception", .type "BaseException", .type "object"] true sn_BadThing sub_BadThing ab_BadThing col_BadThing dd_BadThing m0_BadThing m1_BadThing m2_BadThing m3_BadThing m5_BadThing "ValueError.__new__"))
    (xsa_BadThing : PySem.W.findIn K (.ref cA_BadThing) "__setattr__" = some (some (.builtin "object.__setattr__")))
    (xga_BadThing : PySem.W.findIn K (.ref cA_BadThing) "__getattribute__" = some (some (.builtin "BaseException.__getattribute__")))
    (xgg_BadThing : PySem.W.findIn K (.ref cA_BadThing) "__getattr__" = some none)
    (xno_BadThing : PySem.W.findIn K (.ref cA_BadThing) "place" = some none)
    (xkc_BadThing : PySem.W.keepIn K (.ref cA_BadThing) = true)
    (xex_BadThing : PySem.W.subIn K (.ref cA_BadThing) (.type "BaseException") = some true)
    (xty_BadThing : PySem.W.typeIn K (.ref cA_BadThing) = some (.type "type"))
    (xhd_BadThing : PySem.W.hasDictIn K cA_BadThing = true)
    (xcl_BadThing : PySem.W.findIn K (.ref cA_BadThing) "__class__" = some (some (.builtin "object.__class__")))
    (xmr_BadThing : PySem.W.mroIn K cA_BadThing (.type "object") = some true)
    (em_BadThing_ChoiceError : PySem.W.subIn K (.ref cA_BadThing) (.ref cA_ChoiceError) = some true)
    (ki_BadThing_BadThing : PySem.W.kitOne K (.ref cA_BadThing) (.ref cA_BadThing) = some true)
    (ki_BadThing_BadRule : PySem.W.kitOne K (.ref cA_BadThing) (.ref cA_BadRule) = some false)
    (ki_BadThing_BadRow : PySem.W.kitOne K (.ref cA_BadThing) (.ref cA_BadRow) = some false)
    (ki_BadThing_HasAnswer : PySem.W.kitOne K (.ref cA_BadThing) (.ref cA_HasAnswer) = some false)
    (ki_BadThing_NoChoice : PySem.W.kitOne K (.ref cA_BadThing) (.ref cA_NoChoice) = some false)
    (ki_BadThing_NoValue : PySem.W.kitOne K (.ref cA_BadThing) (.ref cA_NoValue) = some false)
    (ki_BadThing_NotStuck : PySem.W.kitOne K (.ref cA_BadThing) (.ref cA_NotStuck) = some false)
    (ki_BadThing_Stuck : PySem.W.kitOne K (.ref cA_BadThing) (.ref cA_Stuck) = some false)
    (kb_BadThing_ValueError : PySem.W.kitOne K (.ref cA_BadThing) (.type "ValueError") = some true)
    (xcb_ChoiceError : PySem.W.subIn K (.ref cA_ChoiceError) (.type "BaseException") = some true)
    (xci_ChoiceError : PySem.W.hasDictIn K cA_ChoiceError = true)
    (xct_ChoiceError : PySem.W.typeIn K (.ref cA_ChoiceError) = some (.type "type"))
    (xsn : PySem.W.specialIn K (.builtin "object.__class__") "__get__" = some (some (.builtin "getset_descriptor.__get__")))
    (xtk : PySem.W.takesIn K (.builtin "object.__class__") = some true)
    (a0 : PySem.W.findIn K (.ref cA_BadThing) "__init__" = some (some (.ref f0))) (i0 : PySem.W.typeIn K (.ref f0) = some (.type "function")) (l0 : K.lookup f0 = some ⟨oc0, od0, .func (PySem.W.fnOf "__init__" "BadThing.__init__" (defArgs s_BadThing___init__) (defBody s_BadThing___init__) (defScope s_BadThing___init__) .none kV0 dc0 pm0 an0 cd0 ct0), sl0⟩) (c0 : PySem.W.codeIn K cd0 "BadThing.__init__" = true) (k0 : PySem.W.keepIn K (.ref f0) = true)
    (a1 : PySem.W.findIn K (.ref cA_BadRule) "__init__" = some (some (.ref f1))) (i1 : PySem.W.typeIn K (.ref f1) = some (.type "function")) (l1 : K.lookup f1 = some ⟨oc1, od1, .func (PySem.W.fnOf "__init__" "BadRule.__init__" (defArgs s_BadRule___init__) (defBody s_BadRule___init__) (defScope s_BadRule___init__) .none kV1 dc1 pm1 an1 cd1 ct1), sl1⟩) (c1 : PySem.W.codeIn K cd1 "BadRule.__init__" = true) (k1 : PySem.W.keepIn K (.ref f1) = true)
    (a2 : PySem.W.nsIn K mainGlobals "is_number" = some (some (.ref f2))) (l2 : K.lookup f2 = some ⟨oc2, od2, .func (PySem.W.fnOf "is_number" "is_number" (defArgs s_is_number) (defBody s_is_number) (defScope s_is_number) .none kV2 dc2 pm2 an2 cd2 ct2), sl2⟩) (c2 : PySem.W.codeIn K cd2 "is_number" = true) (k2 : PySem.W.keepIn K (.ref f2) = true)
    (a3 : PySem.W.nsIn K mainGlobals "are_numbers" = some (some (.ref f3))) (l3 : K.lookup f3 = some ⟨oc3, od3, .func (PySem.W.fnOf "are_numbers" "are_numbers" (defArgs s_are_numbers) (defBody s_are_numbers) (defScope s_are_numbers) .none kV3 dc3 pm3 an3 cd3 ct3), sl3⟩) (c3 : PySem.W.codeIn K cd3 "are_numbers" = true) (k3 : PySem.W.keepIn K (.ref f3) = true)
    (a4 : PySem.W.nsIn K mainGlobals "is_tuple_of" = some (some (.ref f4))) (l4 : K.lookup f4 = some ⟨oc4, od4, .func (PySem.W.fnOf "is_tuple_of" "is_tuple_of" (defArgs s_is_tuple_of) (defBody s_is_tuple_of) (defScope s_is_tuple_of) .none kV4 dc4 pm4 an4 cd4 ct4), sl4⟩) (c4 : PySem.W.codeIn K cd4 "is_tuple_of" = true) (k4 : PySem.W.keepIn K (.ref f4) = true)
    (a5 : PySem.W.nsIn K mainGlobals "is_name" = some (some (.ref f5))) (l5 : K.lookup f5 = some ⟨oc5, od5, .func (PySem.W.fnOf "is_name" "is_name" (defArgs s_is_name) (defBody s_is_name) (defScope s_is_name) .none kV5 dc5 pm5 an5 cd5 ct5), sl5⟩) (c5 : PySem.W.codeIn K cd5 "is_name" = true) (k5 : PySem.W.keepIn K (.ref f5) = true)
    (a6 : PySem.W.nsIn K mainGlobals "are_values" = some (some (.ref f6))) (l6 : K.lookup f6 = some ⟨oc6, od6, .func (PySem.W.fnOf "are_values" "are_values" (defArgs s_are_values) (defBody s_are_values) (defScope s_are_values) .none kV6 dc6 pm6 an6 cd6 ct6), sl6⟩) (c6 : PySem.W.codeIn K cd6 "are_values" = true) (k6 : PySem.W.keepIn K (.ref f6) = true)
    (a7 : PySem.W.nsIn K mainGlobals "is_thing" = some (some (.ref f7))) (l7 : K.lookup f7 = some ⟨oc7, od7, .func (PySem.W.fnOf "is_thing" "is_thing" (defArgs s_is_thing) (defBody s_is_thing) (defScope s_is_thing) .none kV7 dc7 pm7 an7 cd7 ct7), sl7⟩) (c7 : PySem.W.codeIn K cd7 "is_thing" = true) (k7 : PySem.W.keepIn K (.ref f7) = true)
    (a8 : PySem.W.nsIn K mainGlobals "is_rule" = some (some (.ref f8))) (l8 : K.lookup f8 = some ⟨oc8, od8, .func (PySem.W.fnOf "is_rule" "is_rule" (defArgs s_is_rule) (defBody s_is_rule) (defScope s_is_rule) .none kV8 dc8 pm8 an8 cd8 ct8), sl8⟩) (c8 : PySem.W.codeIn K cd8 "is_rule" = true) (k8 : PySem.W.keepIn K (.ref f8) = true)
    (a9 : PySem.W.nsIn K mainGlobals "own_copy" = some (some (.ref f9))) (l9 : K.lookup f9 = some ⟨oc9, od9, .func (PySem.W.fnOf "own_copy" "own_copy" (defArgs s_own_copy) (defBody s_own_copy) (defScope s_own_copy) .none kV9 dc9 pm9 an9 cd9 ct9), sl9⟩) (c9 : PySem.W.codeIn K cd9 "own_copy" = true) (k9 : PySem.W.keepIn K (.ref f9) = true)
    (a10 : PySem.W.findIn K (.ref cA_Choosing) "__init__" = some (some (.ref f10))) (i10 : PySem.W.isFn K (.ref f10) = true) (l10 : K.lookup f10 = some ⟨oc10, od10, .func (PySem.W.fnOf "__init__" "Choosing.__init__" (defArgs s_Choosing___init__) (defBody s_Choosing___init__) (defScope s_Choosing___init__) .none kV10 dc10 pm10 an10 cd10 ct10), sl10⟩) (c10 : PySem.W.codeIn K cd10 "Choosing.__init__" = true) (k10 : PySem.W.keepIn K (.ref f10) = true)
    (a11 : PySem.W.nsIn K mainGlobals "_law_cell" = some (some (.ref f11))) (l11 : K.lookup f11 = some ⟨oc11, od11, .func (PySem.W.fnOf "_law_cell" "_law_cell" (defArgs s__law_cell) (defBody s__law_cell) (defScope s__law_cell) .none kV11 dc11 pm11 an11 cd11 ct11), sl11⟩) (c11 : PySem.W.codeIn K cd11 "_law_cell" = true) (k11 : PySem.W.keepIn K (.ref f11) = true)
    (a12 : PySem.W.nsIn K mainGlobals "_law_digits" = some (some (.ref f12))) (l12 : K.lookup f12 = some ⟨oc12, od12, .func (PySem.W.fnOf "_law_digits" "_law_digits" (defArgs s__law_digits) (defBody s__law_digits) (defScope s__law_digits) .none kV12 dc12 pm12 an12 cd12 ct12), sl12⟩) (c12 : PySem.W.codeIn K cd12 "_law_digits" = true) (k12 : PySem.W.keepIn K (.ref f12) = true)
    (a13 : PySem.W.nsIn K mainGlobals "_law_pick" = some (some (.ref f13))) (l13 : K.lookup f13 = some ⟨oc13, od13, .func (PySem.W.fnOf "_law_pick" "_law_pick" (defArgs s__law_pick) (defBody s__law_pick) (defScope s__law_pick) .none kV13 dc13 pm13 an13 cd13 ct13), sl13⟩) (c13 : PySem.W.codeIn K cd13 "_law_pick" = true) (k13 : PySem.W.keepIn K (.ref f13) = true)
    (a14 : PySem.W.nsIn K mainGlobals "_law_names" = some (some (.ref f14))) (l14 : K.lookup f14 = some ⟨oc14, od14, .func (PySem.W.fnOf "_law_names" "_law_names" (defArgs s__law_names) (defBody s__law_names) (defScope s__law_names) .none kV14 dc14 pm14 an14 cd14 ct14), sl14⟩) (c14 : PySem.W.codeIn K cd14 "_law_names" = true) (k14 : PySem.W.keepIn K (.ref f14) = true)
    (a15 : PySem.W.nsIn K mainGlobals "_law_values" = some (some (.ref f15))) (l15 : K.lookup f15 = some ⟨oc15, od15, .func (PySem.W.fnOf "_law_values" "_law_values" (defArgs s__law_values) (defBody s__law_values) (defScope s__law_values) .none kV15 dc15 pm15 an15 cd15 ct15), sl15⟩) (c15 : PySem.W.codeIn K cd15 "_law_values" = true) (k15 : PySem.W.keepIn K (.ref f15) = true)
    (a16 : PySem.W.nsIn K mainGlobals "_law_things" = some (some (.ref f16))) (l16 : K.lookup f16 = some ⟨oc16, od16, .func (PySem.W.fnOf "_law_things" "_law_things" (defArgs s__law_things) (defBody s__law_things) (defScope s__law_things) .none kV16 dc16 pm16 an16 cd16 ct16), sl16⟩) (c16 : PySem.W.codeIn K cd16 "_law_things" = true) (k16 : PySem.W.keepIn K (.ref f16) = true)
    (a17 : PySem.W.nsIn K mainGlobals "_law_copy" = some (some (.ref f17))) (l17 : K.lookup f17 = some ⟨oc17, od17, .func (PySem.W.fnOf "_law_copy" "_law_copy" (defArgs s__law_copy) (defBody s__law_copy) (defScope s__law_copy) .none kV17 dc17 pm17 an17 cd17 ct17), sl17⟩) (c17 : PySem.W.codeIn K cd17 "_law_copy" = true) (k17 : PySem.W.keepIn K (.ref f17) = true)
    (a18 : PySem.W.nsIn K mainGlobals "_law_refused" = some (some (.ref f18))) (l18 : K.lookup f18 = some ⟨oc18, od18, .func (PySem.W.fnOf "_law_refused" "_law_refused" (defArgs s__law_refused) (defBody s__law_refused) (defScope s__law_refused) .none kV18 dc18 pm18 an18 cd18 ct18), sl18⟩) (c18 : PySem.W.codeIn K cd18 "_law_refused" = true) (k18 : PySem.W.keepIn K (.ref f18) = true)
    (a19 : PySem.W.nsIn K mainGlobals "_law_spoilt" = some (some (.ref f19))) (l19 : K.lookup f19 = some ⟨oc19, od19, .func (PySem.W.fnOf "_law_spoilt" "_law_spoilt" (defArgs s__law_spoilt) (defBody s__law_spoilt) (defScope s__law_spoilt) .none kV19 dc19 pm19 an19 cd19 ct19), sl19⟩) (c19 : PySem.W.codeIn K cd19 "_law_spoilt" = true) (k19 : PySem.W.keepIn K (.ref f19) = true)
    (a20 : PySem.W.nsIn K mainGlobals "law" = some (some (.ref f20))) (l20 : K.lookup f20 = some ⟨oc20, od20, .func (PySem.W.fnOf "law" "law" (defArgs s_law) (defBody s_law) (defScope s_law) .none kV20 dc20 pm20 an20 cd20 ct20), sl20⟩) (c20 : PySem.W.codeIn K cd20 "law" = true) (k20 : PySem.W.keepIn K (.ref f20) = true)
    (z0 : PySem.W.nsIn K mainGlobals "ValueError" = some none)
    (z1 : PySem.W.nsIn K mainGlobals "abs" = some none)
    (z2 : PySem.W.nsIn K mainGlobals "all" = some none)
    (z3 : PySem.W.nsIn K mainGlobals "bool" = some none)
    (z4 : PySem.W.nsIn K mainGlobals "enumerate" = some none)
    (z5 : PySem.W.nsIn K mainGlobals "int" = some none)
    (z6 : PySem.W.nsIn K mainGlobals "isinstance" = some none)
    (z7 : PySem.W.nsIn K mainGlobals "len" = some none)
    (z8 : PySem.W.nsIn K mainGlobals "list" = some none)
    (z9 : PySem.W.nsIn K mainGlobals "max" = some none)
    (z10 : PySem.W.nsIn K mainGlobals "min" = some none)
    (z11 : PySem.W.nsIn K mainGlobals "range" = some none)
    (z12 : PySem.W.nsIn K mainGlobals "str" = some none)
    (z13 : PySem.W.nsIn K mainGlobals "tuple" = some none)
    {yt0 : Tok} (y0 : PySem.W.nsIn K mainGlobals "LETTERS" = some (some (Value.str "abcdefghijklmnopqrstuvwxyz" yt0)))
    {yt1 : Tok} (y1 : PySem.W.nsIn K mainGlobals "MOST_NAME" = some (some (Value.int 8 yt1)))
    : Facts K mg := by
  have F0 := fun_mk (st := s_BadThing___init__) l0 c0 k0
  have F1 := fun_mk (st := s_BadRule___init__) l1 c1 k1
  have F2 := fun_mk (st := s_is_number) l2 c2 k2
  have F3 := fun_mk (st := s_are_numbers) l3 c3 k3
  have F4 := fun_mk (st := s_is_tuple_of) l4 c4 k4
  have F5 := fun_mk (st := s_is_name) l5 c5 k5
  have F6 := fun_mk (st := s_are_values) l6 c6 k6
  have F7 := fun_mk (st := s_is_thing) l7 c7 k7
  have F8 := fun_mk (st := s_is_rule) l8 c8 k8
  have F9 := fun_mk (st := s_own_copy) l9 c9 k9
  have F10 := fun_mk (st := s_Choosing___init__) l10 c10 k10
  have F11 := fun_mk (st := s__law_cell) l11 c11 k11
  have F12 := fun_mk (st := s__law_digits) l12 c12 k12
  have F13 := fun_mk (st := s__law_pick) l13 c13 k13
  have F14 := fun_mk (st := s__law_names) l14 c14 k14
  have F15 := fun_mk (st := s__law_values) l15 c15 k15
  have F16 := fun_mk (st := s__law_things) l16 c16 k16
  have F17 := fun_mk (st := s__law_copy) l17 c17 k17
  have F18 := fun_mk (st := s__law_refused) l18 c18 k18
  have F19 := fun_mk (st := s__law_spoilt) l19 c19 k19
  have F20 := fun_mk (st := s_law) l20 c20 k20
  have e_Choosing : clsOf mg "Choosing" = cA_Choosing := by unfold clsOf; rw [PySem.W.mg_of X G aC_Choosing]
  have e_BadRow : clsOf mg "BadRow" = cA_BadRow := by unfold clsOf; rw [PySem.W.mg_of X G aC_BadRow]
  have e_BadRule : clsOf mg "BadRule" = cA_BadRule := by unfold clsOf; rw [PySem.W.mg_of X G aC_BadRule]
  have e_BadThing : clsOf mg "BadThing" = cA_BadThing := by unfold clsOf; rw [PySem.W.mg_of X G aC_BadThing]
  have e_ChoiceError : clsOf mg "ChoiceError" = cA_ChoiceError := by unfold clsOf; rw [PySem.W.mg_of X G aC_ChoiceError]
  have e_HasAnswer : clsOf mg "HasAnswer" = cA_HasAnswer := by unfold clsOf; rw [PySem.W.mg_of X G aC_HasAnswer]
  have e_NoChoice : clsOf mg "NoChoice" = cA_NoChoice := by unfold clsOf; rw [PySem.W.mg_of X G aC_NoChoice]
  have e_NoValue : clsOf mg "NoValue" = cA_NoValue := by unfold clsOf; rw [PySem.W.mg_of X G aC_NoValue]
  have e_NotStuck : clsOf mg "NotStuck" = cA_NotStuck := by unfold clsOf; rw [PySem.W.mg_of X G aC_NotStuck]
  have e_Stuck : clsOf mg "Stuck" = cA_Stuck := by unfold clsOf; rw [PySem.W.mg_of X G aC_Stuck]
  exact {
    g_Choosing := by rw [e_Choosing]; exact PySem.W.mg_of X G aC_Choosing
    cl_Choosing := by rw [e_Choosing]; exact ⟨pg_Choosing, hd_Choosing, po_Choosing, sa_Choosing⟩
    na_Choosing_rules := by rw [e_Choosing]; exact nA_Choosing_rules
    na_Choosing_things := by rw [e_Choosing]; exact nA_Choosing_things
    g_BadRow := by rw [e_BadRow]; exact PySem.W.mg_of X G aC_BadRow
    g_BadRule := by rw [e_BadRule]; exact PySem.W.mg_of X G aC_BadRule
    g_BadThing := by rw [e_BadThing]; exact PySem.W.mg_of X G aC_BadThing
    g_ChoiceError := by rw [e_ChoiceError]; exact PySem.W.mg_of X G aC_ChoiceError
    g_HasAnswer := by rw [e_HasAnswer]; exact PySem.W.mg_of X G aC_HasAnswer
    g_NoChoice := by rw [e_NoChoice]; exact PySem.W.mg_of X G aC_NoChoice
    g_NoValue := by rw [e_NoValue]; exact PySem.W.mg_of X G aC_NoValue
    g_NotStuck := by rw [e_NotStuck]; exact PySem.W.mg_of X G aC_NotStuck
    g_Stuck := by rw [e_Stuck]; exact PySem.W.mg_of X G aC_Stuck
    bx_ChoiceError := ⟨cA_ChoiceError, PySem.W.mg_of X G aC_ChoiceError, rd_ChoiceError, sg_ChoiceError, fc_ChoiceError⟩
    tx_BadRule := by rw [e_BadRule]; exact ⟨⟨⟨_, _, _, _, _, _, _, _, _, _, _, _, _, _, _, xL_BadRule, by rfl⟩, xsa_BadRule, xex_BadRule, xty_BadRule, xkc_BadRule⟩, xno_BadRule, ⟨f1, _, F1, a1, i1, fun us hl => match us, hl with | [_, _], _ => rfl⟩⟩
    ec_BadRule := by rw [e_BadRule]; exact ⟨xga_BadRule, xgg_BadRule, xex_BadRule, xhd_BadRule, xcl_BadRule, xsn, xtk, xmr_BadRule⟩
    em_BadRule_ChoiceError := by rw [e_BadRule, e_ChoiceError]; exact PySem.W.exm_ref xcb_ChoiceError xci_ChoiceError xct_ChoiceError em_BadRule_ChoiceError
    ki_BadRule_BadThing := by rw [e_BadRule, e_BadThing]; exact ki_BadRule_BadThing
    ki_BadRule_BadRule := by rw [e_BadRule]; exact ki_BadRule_BadRule
    ki_BadRule_BadRow := by rw [e_BadRule, e_BadRow]; exact ki_BadRule_BadRow
    ki_BadRule_HasAnswer := by rw [e_BadRule, e_HasAnswer]; exact ki_BadRule_HasAnswer
    ki_BadRule_NoChoice := by rw [e_BadRule, e_NoChoice]; exact ki_BadRule_NoChoice
    ki_BadRule_NoValue := by rw [e_BadRule, e_NoValue]; exact ki_BadRule_NoValue
    ki_BadRule_NotStuck := by rw [e_BadRule, e_NotStuck]; exact ki_BadRule_NotStuck
    ki_BadRule_Stuck := by rw [e_BadRule, e_Stuck]; exact ki_BadRule_Stuck
    kb_BadRule_ValueError := by rw [e_BadRule]; exact kb_BadRule_ValueError
    tx_BadThing := by rw [e_BadThing]; exact ⟨⟨⟨_, _, _, _, _, _, _, _, _, _, _, _, _, _, _, xL_BadThing, by rfl⟩, xsa_BadThing, xex_BadThing, xty_BadThing, xkc_BadThing⟩, xno_BadThing, ⟨f0, _, F0, a0, i0, fun us hl => match us, hl with | [_, _], _ => rfl⟩⟩
    ec_BadThing := by rw [e_BadThing]; exact ⟨xga_BadThing, xgg_BadThing, xex_BadThing, xhd_BadThing, xcl_BadThing, xsn, xtk, xmr_BadThing⟩
    em_BadThing_ChoiceError := by rw [e_BadThing, e_ChoiceError]; exact PySem.W.exm_ref xcb_ChoiceError xci_ChoiceError xct_ChoiceError em_BadThing_ChoiceError
    ki_BadThing_BadThing := by rw [e_BadThing]; exact ki_BadThing_BadThing
    ki_BadThing_BadRule := by rw [e_BadThing, e_BadRule]; exact ki_BadThing_BadRule
    ki_BadThing_BadRow := by rw [e_BadThing, e_BadRow]; exact ki_BadThing_BadRow
    ki_BadThing_HasAnswer := by rw [e_BadThing, e_HasAnswer]; exact ki_BadThing_HasAnswer
    ki_BadThing_NoChoice := by rw [e_BadThing, e_NoChoice]; exact ki_BadThing_NoChoice
    ki_BadThing_NoValue := by rw [e_BadThing, e_NoValue]; exact ki_BadThing_NoValue
    ki_BadThing_NotStuck := by rw [e_BadThing, e_NotStuck]; exact ki_BadThing_NotStuck
    ki_BadThing_Stuck := by rw [e_BadThing, e_Stuck]; exact ki_BadThing_Stuck
    kb_BadThing_ValueError := by rw [e_BadThing]; exact kb_BadThing_ValueError
    t_is_number := ⟨f2, _, F2, PySem.W.mg_of X G a2, fun us hl => match us, hl with | [_], _ => rfl⟩
    t_are_numbers := ⟨f3, _, F3, PySem.W.mg_of X G a3, fun us hl => match us, hl with | [_], _ => rfl⟩
    t_is_tuple_of := ⟨f4, _, F4, PySem.W.mg_of X G a4, fun us hl => match us, hl with | [_, _], _ => rfl⟩
    t_is_name := ⟨f5, _, F5, PySem.W.mg_of X G a5, fun us hl => match us, hl with | [_], _ => rfl⟩
    t_are_values := ⟨f6, _, F6, PySem.W.mg_of X G a6, fun us hl => match us, hl with | [_], _ => rfl⟩
    t_is_thing := ⟨f7, _, F7, PySem.W.mg_of X G a7, fun us hl => match us, hl with | [_], _ => rfl⟩
    t_is_rule := ⟨f8, _, F8, PySem.W.mg_of X G a8, fun us hl => match us, hl with | [_, _], _ => rfl⟩
    t_own_copy := ⟨f9, _, F9, PySem.W.mg_of X G a9, fun us hl => match us, hl with | [_], _ => rfl⟩
    t_Choosing___init__ := by rw [e_Choosing]; exact ⟨f10, _, F10, ⟨mk_Choosing, a10, i10, kc_Choosing⟩, fun us hl => match us, hl with | [_, _, _], _ => rfl⟩
    t__law_cell := ⟨f11, _, F11, PySem.W.mg_of X G a11, fun us hl => match us, hl with | [_, _], _ => rfl⟩
    t__law_digits := ⟨f12, _, F12, PySem.W.mg_of X G a12, fun us hl => match us, hl with | [_, _], _ => rfl⟩
    t__law_pick := ⟨f13, _, F13, PySem.W.mg_of X G a13, fun us hl => match us, hl with | [_, _], _ => rfl⟩
    t__law_names := ⟨f14, _, F14, PySem.W.mg_of X G a14, fun us hl => match us, hl with | [_, _], _ => rfl⟩
    t__law_values := ⟨f15, _, F15, PySem.W.mg_of X G a15, fun us hl => match us, hl with | [_], _ => rfl⟩
    t__law_things := ⟨f16, _, F16, PySem.W.mg_of X G a16, fun us hl => match us, hl with | [_, _], _ => rfl⟩
    t__law_copy := ⟨f17, _, F17, PySem.W.mg_of X G a17, fun us hl => match us, hl with | [_], _ => rfl⟩
    t__law_refused := ⟨f18, _, F18, PySem.W.mg_of X G a18, fun us hl => match us, hl with | [_, _], _ => rfl⟩
    t__law_spoilt := ⟨f19, _, F19, PySem.W.mg_of X G a19, fun us hl => match us, hl with | [_, _, _], _ => rfl⟩
    t_law := ⟨f20, _, F20, PySem.W.mg_of X G a20, fun us hl => match us, hl with | [_], _ => rfl⟩
    m_ValueError := PySem.W.mg_none_of X G z0
    m_abs := PySem.W.mg_none_of X G z1
    m_all := PySem.W.mg_none_of X G z2
    m_bool := PySem.W.mg_none_of X G z3
    m_enumerate := PySem.W.mg_none_of X G z4
    m_int := PySem.W.mg_none_of X G z5
    m_isinstance := PySem.W.mg_none_of X G z6
    m_len := PySem.W.mg_none_of X G z7
    m_list := PySem.W.mg_none_of X G z8
    m_max := PySem.W.mg_none_of X G z9
    m_min := PySem.W.mg_none_of X G z10
    m_range := PySem.W.mg_none_of X G z11
    m_str := PySem.W.mg_none_of X G z12
    m_tuple := PySem.W.mg_none_of X G z13
    v_LETTERS := ⟨_, PySem.W.mg_of X G y0⟩
    v_MOST_NAME := ⟨_, PySem.W.mg_of X G y1⟩
  }
set_option maxHeartbeats 0 in
theorem law_end {l : PySem.W.OpenLaw} {w : World} {K : PySem.W.Frag} {h : Heap} {mg : Str → Option Value} {fa : Addr} (X : K.In h) (G : h.Ns mainGlobals mg) (hmg : mg "law" = some (.ref fa))
    {f0 f1 f2 f3 f4 f5 f6 f7 f8 f9 f10 f11 f12 f13 f14 f15 f16 f17 f18 f19 f20 : Addr} {od0 an0 od1 an1 od2 an2 od3 an3 od4 an4 od5 an5 od6 an6 od7 an7 od8 an8 od9 an9 od10 an10 od11 an11 od12 an12 od13 an13 od14 an14 od15 an15 od16 an16 od17 an17 od18 an18 od19 an19 od20 an20 : Option Addr} {sl0 sl1 sl2 sl3 sl4 sl5 sl6 sl7 sl8 sl9 sl10 sl11 sl12 sl13 sl14 sl15 sl16 sl17 sl18 sl19 sl20 : Array (Option Value)} {oc0 kV0 dc0 pm0 cd0 ct0 oc1 kV1 dc1 pm1 cd1 ct1 oc2 kV2 dc2 pm2 cd2 ct2 oc3 kV3 dc3 pm3 cd3 ct3 oc4 kV4 dc4 pm4 cd4 ct4 oc5 kV5 dc5 pm5 cd5 ct5 oc6 kV6 dc6 pm6 cd6 ct6 oc7 kV7 dc7 pm7 cd7 ct7 oc8 kV8 dc8 pm8 cd8 ct8 oc9 kV9 dc9 pm9 cd9 ct9 oc10 kV10 dc10 pm10 cd10 ct10 oc11 kV11 dc11 pm11 cd11 ct11 oc12 kV12 dc12 pm12 cd12 ct12 oc13 kV13 dc13 pm13 cd13 ct13 oc14 kV14 dc14 pm14 cd14 ct14 oc15 kV15 dc15 pm15 cd15 ct15 oc16 kV16 dc16 pm16 cd16 ct16 oc17 kV17 dc17 pm17 cd17 ct17 oc18 kV18 dc18 pm18 cd18 ct18 oc19 kV19 dc19 pm19 cd19 ct19 oc20 kV20 dc20 pm20 cd20 ct20 : Value}
    {cA_Choosing : Addr} (aC_Choosing : PySem.W.nsIn K mainGlobals "Choosing" = some (some (.ref cA_Choosing)))
    (pg_Choosing : PySem.W.plainGet K cA_Choosing Str.empty = true) (hd_Choosing : PySem.W.hasDictIn K cA_Choosing = true) (po_Choosing : PySem.W.plainOver K cA_Choosing = true) (sa_Choosing : PySem.W.findIn K (.ref cA_Choosing) "__setattr__" = some (some (.builtin "object.__setattr__"))) (mk_Choosing : PySem.W.makesIn K cA_Choosing = true) (kc_Choosing : PySem.W.keepIn K (.ref cA_Choosing) = true)
    (nA_Choosing_rules : PySem.W.findIn K (.ref cA_Choosing) "rules" = some none)
    (nA_Choosing_things : PySem.W.findIn K (.ref cA_Choosing) "things" = some none)
    {cA_BadRow : Addr} (aC_BadRow : PySem.W.nsIn K mainGlobals "BadRow" = some (some (.ref cA_BadRow)))
    {cA_BadRule : Addr} (aC_BadRule : PySem.W.nsIn K mainGlobals "BadRule" = some (some (.ref cA_BadRule)))
    {cA_BadThing : Addr} (aC_BadThing : PySem.W.nsIn K mainGlobals "BadThing" = some (some (.ref cA_BadThing)))
    {cA_ChoiceError : Addr} (aC_ChoiceError : PySem.W.nsIn K mainGlobals "ChoiceError" = some (some (.ref cA_ChoiceError)))
    {cA_HasAnswer : Addr} (aC_HasAnswer : PySem.W.nsIn K mainGlobals "HasAnswer" = some (some (.ref cA_HasAnswer)))
    {cA_NoChoice : Addr} (aC_NoChoice : PySem.W.nsIn K mainGlobals "NoChoice" = some (some (.ref cA_NoChoice)))
    {cA_NoValue : Addr} (aC_NoValue : PySem.W.nsIn K mainGlobals "NoValue" = some (some (.ref cA_NoValue)))
    {cA_NotStuck : Addr} (aC_NotStuck : PySem.W.nsIn K mainGlobals "NotStuck" = some (some (.ref cA_NotStuck)))
    {cA_Stuck : Addr} (aC_Stuck : PySem.W.nsIn K mainGlobals "Stuck" = some (some (.ref cA_Stuck)))
    {nm_BadRule q_BadRule : Str} {N_BadRule : Addr} {bs_BadRule : List Value} {sn_BadRule : List Str} {sub_BadRule : List Value} {ab_BadRule : Bool} {col_BadRule : Option Bool} {dd_BadRule : Option Addr} {m0_BadRule m1_BadRule m2_BadRule m3_BadRule m5_BadRule : Option Value}
    {nm_BadThing q_BadThing : Str} {N_BadThing : Addr} {bs_BadThing : List Value} {sn_BadThing : List Str} {sub_BadThing : List Value} {ab_BadThing : Bool} {col_BadThing : Option Bool} {dd_BadThing : Option Addr} {m0_BadThing m1_BadThing m2_BadThing m3_BadThing m5_BadThing : Option Value}
    (rd_ChoiceError : PySem.W.readsIn K cA_ChoiceError (.type "type") = true)
    (sg_ChoiceError : PySem.W.specialIn K (.ref cA_ChoiceError) "__getattribute__" = some (some (.builtin "type.__getattribute__")))
    (fc_ChoiceError : PySem.W.findCls K (.ref cA_ChoiceError) (.type "type") "__init__" = some (.val (.builtin "ValueError.__init__")))
    (xL_BadRule : K.lookup cA_BadRule = some (excClassObj nm_BadRule q_BadRule cA_BadRule N_BadRule bs_BadRule [.ref cA_ChoiceError, .type "ValueError", .type "Exception", .type "BaseException", .type "object"] true sn_BadRule sub_BadRule ab_BadRule col_BadRule dd_BadRule m0_BadRule m1_BadRule m2_BadRule m3_BadRule m5_BadRule "ValueError.__new__"))
    (xsa_BadRule : PySem.W.findIn K (.ref cA_BadRule) "__setattr__" = some (some (.builtin "object.__setattr__")))
    (xga_BadRule : PySem.W.findIn K (.ref cA_BadRule) "__getattribute__" = some (some (.builtin "BaseException.__getattribute__")))
    (xgg_BadRule : PySem.W.findIn K (.ref cA_BadRule) "__getattr__" = some none)
    (xno_BadRule : PySem.W.findIn K (.ref cA_BadRule) "place" = some none)
    (xkc_BadRule : PySem.W.keepIn K (.ref cA_BadRule) = true)
    (xex_BadRule : PySem.W.subIn K (.ref cA_BadRule) (.type "BaseException") = some true)
    (xty_BadRule : PySem.W.typeIn K (.ref cA_BadRule) = some (.type "type"))
    (xhd_BadRule : PySem.W.hasDictIn K cA_BadRule = true)
    (xcl_BadRule : PySem.W.findIn K (.ref cA_BadRule) "__class__" = some (some (.builtin "object.__class__")))
    (xmr_BadRule : PySem.W.mroIn K cA_BadRule (.type "object") = some true)
    (em_BadRule_ChoiceError : PySem.W.subIn K (.ref cA_BadRule) (.ref cA_ChoiceError) = some true)
    (ki_BadRule_BadThing : PySem.W.kitOne K (.ref cA_BadRule) (.ref cA_BadThing) = some false)
    (ki_BadRule_BadRule : PySem.W.kitOne K (.ref cA_BadRule) (.ref cA_BadRule) = some true)
    (ki_BadRule_BadRow : PySem.W.kitOne K (.ref cA_BadRule) (.ref cA_BadRow) = some false)
    (ki_BadRule_HasAnswer : PySem.W.kitOne K (.ref cA_BadRule) (.ref cA_HasAnswer) = some false)
    (ki_BadRule_NoChoice : PySem.W.kitOne K (.ref cA_BadRule) (.ref cA_NoChoice) = some false)
    (ki_BadRule_NoValue : PySem.W.kitOne K (.ref cA_BadRule) (.ref cA_NoValue) = some false)
    (ki_BadRule_NotStuck : PySem.W.kitOne K (.ref cA_BadRule) (.ref cA_NotStuck) = some false)
    (ki_BadRule_Stuck : PySem.W.kitOne K (.ref cA_BadRule) (.ref cA_Stuck) = some false)
    (kb_BadRule_ValueError : PySem.W.kitOne K (.ref cA_BadRule) (.type "ValueError") = some true)
    (xL_BadThing : K.lookup cA_BadThing = some (excClassObj nm_BadThing q_BadThing cA_BadThing N_BadThing bs_BadThing [.ref cA_ChoiceError, .type "ValueError", .type "Exception", .type "BaseException", .type "object"] true sn_BadThing sub_BadThing ab_BadThing col_BadThing dd_BadThing m0_BadThing m1_BadThing m2_BadThing m3_BadThing m5_BadThing "ValueError.__new__"))
    (xsa_BadThing : PySem.W.findIn K (.ref cA_BadThing) "__setattr__" = some (some (.builtin "object.__setattr__")))
    (xga_BadThing : PySem.W.findIn K (.ref cA_BadThing) "__getattribute__" = some (some (.builtin "BaseException.__getattribute__")))
    (xgg_BadThing : PySem.W.findIn K (.ref cA_BadThing) "__getattr__" = some none)
    (xno_BadThing : PySem.W.findIn K (.ref cA_BadThing) "place" = some none)
    (xkc_BadThing : PySem.W.keepIn K (.ref cA_BadThing) = true)
    (xex_BadThing : PySem.W.subIn K (.ref cA_BadThing) (.type "BaseException") = some true)
    (xty_BadThing : PySem.W.typeIn K (.ref cA_BadThing) = some (.type "type"))
    (xhd_BadThing : PySem.W.hasDictIn K cA_BadThing = true)
    (xcl_BadThing : PySem.W.findIn K (.ref cA_BadThing) "__class__" = some (some (.builtin "object.__class__")))
    (xmr_BadThing : PySem.W.mroIn K cA_BadThing (.type "object") = some true)
    (em_BadThing_ChoiceError : PySem.W.subIn K (.ref cA_BadThing) (.ref cA_ChoiceError) = some true)
    (ki_BadThing_BadThing : PySem.W.kitOne K (.ref cA_BadThing) (.ref cA_BadThing) = some true)
    (ki_BadThing_BadRule : PySem.W.kitOne K (.ref cA_BadThing) (.ref cA_BadRule) = some false)
    (ki_BadThing_BadRow : PySem.W.kitOne K (.ref cA_BadThing) (.ref cA_BadRow) = some false)
    (ki_BadThing_HasAnswer : PySem.W.kitOne K (.ref cA_BadThing) (.ref cA_HasAnswer) = some false)
    (ki_BadThing_NoChoice : PySem.W.kitOne K (.ref cA_BadThing) (.ref cA_NoChoice) = some false)
    (ki_BadThing_NoValue : PySem.W.kitOne K (.ref cA_BadThing) (.ref cA_NoValue) = some false)
    (ki_BadThing_NotStuck : PySem.W.kitOne K (.ref cA_BadThing) (.ref cA_NotStuck) = some false)
    (ki_BadThing_Stuck : PySem.W.kitOne K (.ref cA_BadThing) (.ref cA_Stuck) = some false)
    (kb_BadThing_ValueError : PySem.W.kitOne K (.ref cA_BadThing) (.type "ValueError") = some true)
    (xcb_ChoiceError : PySem.W.subIn K (.ref cA_ChoiceError) (.type "BaseException") = some true)
    (xci_ChoiceError : PySem.W.hasDictIn K cA_ChoiceError = true)
    (xct_ChoiceError : PySem.W.typeIn K (.ref cA_ChoiceError) = some (.type "type"))
    (xsn : PySem.W.specialIn K (.builtin "object.__class__") "__get__" = some (some (.builtin "getset_descriptor.__get__")))
    (xtk : PySem.W.takesIn K (.builtin "object.__class__") = some true)
    (a0 : PySem.W.findIn K (.ref cA_BadThing) "__init__" = some (some (.ref f0))) (i0 : PySem.W.typeIn K (.ref f0) = some (.type "function")) (l0 : K.lookup f0 = some ⟨oc0, od0, .func (PySem.W.fnOf "__init__" "BadThing.__init__" (defArgs s_BadThing___init__) (defBody s_BadThing___init__) (defScope s_BadThing___init__) .none kV0 dc0 pm0 an0 cd0 ct0), sl0⟩) (c0 : PySem.W.codeIn K cd0 "BadThing.__init__" = true) (k0 : PySem.W.keepIn K (.ref f0) = true)
    (a1 : PySem.W.findIn K (.ref cA_BadRule) "__init__" = some (some (.ref f1))) (i1 : PySem.W.typeIn K (.ref f1) = some (.type "function")) (l1 : K.lookup f1 = some ⟨oc1, od1, .func (PySem.W.fnOf "__init__" "BadRule.__init__" (defArgs s_BadRule___init__) (defBody s_BadRule___init__) (defScope s_BadRule___init__) .none kV1 dc1 pm1 an1 cd1 ct1), sl1⟩) (c1 : PySem.W.codeIn K cd1 "BadRule.__init__" = true) (k1 : PySem.W.keepIn K (.ref f1) = true)
    (a2 : PySem.W.nsIn K mainGlobals "is_number" = some (some (.ref f2))) (l2 : K.lookup f2 = some ⟨oc2, od2, .func (PySem.W.fnOf "is_number" "is_number" (defArgs s_is_number) (defBody s_is_number) (defScope s_is_number) .none kV2 dc2 pm2 an2 cd2 ct2), sl2⟩) (c2 : PySem.W.codeIn K cd2 "is_number" = true) (k2 : PySem.W.keepIn K (.ref f2) = true)
    (a3 : PySem.W.nsIn K mainGlobals "are_numbers" = some (some (.ref f3))) (l3 : K.lookup f3 = some ⟨oc3, od3, .func (PySem.W.fnOf "are_numbers" "are_numbers" (defArgs s_are_numbers) (defBody s_are_numbers) (defScope s_are_numbers) .none kV3 dc3 pm3 an3 cd3 ct3), sl3⟩) (c3 : PySem.W.codeIn K cd3 "are_numbers" = true) (k3 : PySem.W.keepIn K (.ref f3) = true)
    (a4 : PySem.W.nsIn K mainGlobals "is_tuple_of" = some (some (.ref f4))) (l4 : K.lookup f4 = some ⟨oc4, od4, .func (PySem.W.fnOf "is_tuple_of" "is_tuple_of" (defArgs s_is_tuple_of) (defBody s_is_tuple_of) (defScope s_is_tuple_of) .none kV4 dc4 pm4 an4 cd4 ct4), sl4⟩) (c4 : PySem.W.codeIn K cd4 "is_tuple_of" = true) (k4 : PySem.W.keepIn K (.ref f4) = true)
    (a5 : PySem.W.nsIn K mainGlobals "is_name" = some (some (.ref f5))) (l5 : K.lookup f5 = some ⟨oc5, od5, .func (PySem.W.fnOf "is_name" "is_name" (defArgs s_is_name) (defBody s_is_name) (defScope s_is_name) .none kV5 dc5 pm5 an5 cd5 ct5), sl5⟩) (c5 : PySem.W.codeIn K cd5 "is_name" = true) (k5 : PySem.W.keepIn K (.ref f5) = true)
    (a6 : PySem.W.nsIn K mainGlobals "are_values" = some (some (.ref f6))) (l6 : K.lookup f6 = some ⟨oc6, od6, .func (PySem.W.fnOf "are_values" "are_values" (defArgs s_are_values) (defBody s_are_values) (defScope s_are_values) .none kV6 dc6 pm6 an6 cd6 ct6), sl6⟩) (c6 : PySem.W.codeIn K cd6 "are_values" = true) (k6 : PySem.W.keepIn K (.ref f6) = true)
    (a7 : PySem.W.nsIn K mainGlobals "is_thing" = some (some (.ref f7))) (l7 : K.lookup f7 = some ⟨oc7, od7, .func (PySem.W.fnOf "is_thing" "is_thing" (defArgs s_is_thing) (defBody s_is_thing) (defScope s_is_thing) .none kV7 dc7 pm7 an7 cd7 ct7), sl7⟩) (c7 : PySem.W.codeIn K cd7 "is_thing" = true) (k7 : PySem.W.keepIn K (.ref f7) = true)
    (a8 : PySem.W.nsIn K mainGlobals "is_rule" = some (some (.ref f8))) (l8 : K.lookup f8 = some ⟨oc8, od8, .func (PySem.W.fnOf "is_rule" "is_rule" (defArgs s_is_rule) (defBody s_is_rule) (defScope s_is_rule) .none kV8 dc8 pm8 an8 cd8 ct8), sl8⟩) (c8 : PySem.W.codeIn K cd8 "is_rule" = true) (k8 : PySem.W.keepIn K (.ref f8) = true)
    (a9 : PySem.W.nsIn K mainGlobals "own_copy" = some (some (.ref f9))) (l9 : K.lookup f9 = some ⟨oc9, od9, .func (PySem.W.fnOf "own_copy" "own_copy" (defArgs s_own_copy) (defBody s_own_copy) (defScope s_own_copy) .none kV9 dc9 pm9 an9 cd9 ct9), sl9⟩) (c9 : PySem.W.codeIn K cd9 "own_copy" = true) (k9 : PySem.W.keepIn K (.ref f9) = true)
    (a10 : PySem.W.findIn K (.ref cA_Choosing) "__init__" = some (some (.ref f10))) (i10 : PySem.W.isFn K (.ref f10) = true) (l10 : K.lookup f10 = some ⟨oc10, od10, .func (PySem.W.fnOf "__init__" "Choosing.__init__" (defArgs s_Choosing___init__) (defBody s_Choosing___init__) (defScope s_Choosing___init__) .none kV10 dc10 pm10 an10 cd10 ct10), sl10⟩) (c10 : PySem.W.codeIn K cd10 "Choosing.__init__" = true) (k10 : PySem.W.keepIn K (.ref f10) = true)
    (a11 : PySem.W.nsIn K mainGlobals "_law_cell" = some (some (.ref f11))) (l11 : K.lookup f11 = some ⟨oc11, od11, .func (PySem.W.fnOf "_law_cell" "_law_cell" (defArgs s__law_cell) (defBody s__law_cell) (defScope s__law_cell) .none kV11 dc11 pm11 an11 cd11 ct11), sl11⟩) (c11 : PySem.W.codeIn K cd11 "_law_cell" = true) (k11 : PySem.W.keepIn K (.ref f11) = true)
    (a12 : PySem.W.nsIn K mainGlobals "_law_digits" = some (some (.ref f12))) (l12 : K.lookup f12 = some ⟨oc12, od12, .func (PySem.W.fnOf "_law_digits" "_law_digits" (defArgs s__law_digits) (defBody s__law_digits) (defScope s__law_digits) .none kV12 dc12 pm12 an12 cd12 ct12), sl12⟩) (c12 : PySem.W.codeIn K cd12 "_law_digits" = true) (k12 : PySem.W.keepIn K (.ref f12) = true)
    (a13 : PySem.W.nsIn K mainGlobals "_law_pick" = some (some (.ref f13))) (l13 : K.lookup f13 = some ⟨oc13, od13, .func (PySem.W.fnOf "_law_pick" "_law_pick" (defArgs s__law_pick) (defBody s__law_pick) (defScope s__law_pick) .none kV13 dc13 pm13 an13 cd13 ct13), sl13⟩) (c13 : PySem.W.codeIn K cd13 "_law_pick" = true) (k13 : PySem.W.keepIn K (.ref f13) = true)
    (a14 : PySem.W.nsIn K mainGlobals "_law_names" = some (some (.ref f14))) (l14 : K.lookup f14 = some ⟨oc14, od14, .func (PySem.W.fnOf "_law_names" "_law_names" (defArgs s__law_names) (defBody s__law_names) (defScope s__law_names) .none kV14 dc14 pm14 an14 cd14 ct14), sl14⟩) (c14 : PySem.W.codeIn K cd14 "_law_names" = true) (k14 : PySem.W.keepIn K (.ref f14) = true)
    (a15 : PySem.W.nsIn K mainGlobals "_law_values" = some (some (.ref f15))) (l15 : K.lookup f15 = some ⟨oc15, od15, .func (PySem.W.fnOf "_law_values" "_law_values" (defArgs s__law_values) (defBody s__law_values) (defScope s__law_values) .none kV15 dc15 pm15 an15 cd15 ct15), sl15⟩) (c15 : PySem.W.codeIn K cd15 "_law_values" = true) (k15 : PySem.W.keepIn K (.ref f15) = true)
    (a16 : PySem.W.nsIn K mainGlobals "_law_things" = some (some (.ref f16))) (l16 : K.lookup f16 = some ⟨oc16, od16, .func (PySem.W.fnOf "_law_things" "_law_things" (defArgs s__law_things) (defBody s__law_things) (defScope s__law_things) .none kV16 dc16 pm16 an16 cd16 ct16), sl16⟩) (c16 : PySem.W.codeIn K cd16 "_law_things" = true) (k16 : PySem.W.keepIn K (.ref f16) = true)
    (a17 : PySem.W.nsIn K mainGlobals "_law_copy" = some (some (.ref f17))) (l17 : K.lookup f17 = some ⟨oc17, od17, .func (PySem.W.fnOf "_law_copy" "_law_copy" (defArgs s__law_copy) (defBody s__law_copy) (defScope s__law_copy) .none kV17 dc17 pm17 an17 cd17 ct17), sl17⟩) (c17 : PySem.W.codeIn K cd17 "_law_copy" = true) (k17 : PySem.W.keepIn K (.ref f17) = true)
    (a18 : PySem.W.nsIn K mainGlobals "_law_refused" = some (some (.ref f18))) (l18 : K.lookup f18 = some ⟨oc18, od18, .func (PySem.W.fnOf "_law_refused" "_law_refused" (defArgs s__law_refused) (defBody s__law_refused) (defScope s__law_refused) .none kV18 dc18 pm18 an18 cd18 ct18), sl18⟩) (c18 : PySem.W.codeIn K cd18 "_law_refused" = true) (k18 : PySem.W.keepIn K (.ref f18) = true)
    (a19 : PySem.W.nsIn K mainGlobals "_law_spoilt" = some (some (.ref f19))) (l19 : K.lookup f19 = some ⟨oc19, od19, .func (PySem.W.fnOf "_law_spoilt" "_law_spoilt" (defArgs s__law_spoilt) (defBody s__law_spoilt) (defScope s__law_spoilt) .none kV19 dc19 pm19 an19 cd19 ct19), sl19⟩) (c19 : PySem.W.codeIn K cd19 "_law_spoilt" = true) (k19 : PySem.W.keepIn K (.ref f19) = true)
    (a20 : PySem.W.nsIn K mainGlobals "law" = some (some (.ref f20))) (l20 : K.lookup f20 = some ⟨oc20, od20, .func (PySem.W.fnOf "law" "law" (defArgs s_law) (defBody s_law) (defScope s_law) .none kV20 dc20 pm20 an20 cd20 ct20), sl20⟩) (c20 : PySem.W.codeIn K cd20 "law" = true) (k20 : PySem.W.keepIn K (.ref f20) = true)
    (z0 : PySem.W.nsIn K mainGlobals "ValueError" = some none)
    (z1 : PySem.W.nsIn K mainGlobals "abs" = some none)
    (z2 : PySem.W.nsIn K mainGlobals "all" = some none)
    (z3 : PySem.W.nsIn K mainGlobals "bool" = some none)
    (z4 : PySem.W.nsIn K mainGlobals "enumerate" = some none)
    (z5 : PySem.W.nsIn K mainGlobals "int" = some none)
    (z6 : PySem.W.nsIn K mainGlobals "isinstance" = some none)
    (z7 : PySem.W.nsIn K mainGlobals "len" = some none)
    (z8 : PySem.W.nsIn K mainGlobals "list" = some none)
    (z9 : PySem.W.nsIn K mainGlobals "max" = some none)
    (z10 : PySem.W.nsIn K mainGlobals "min" = some none)
    (z11 : PySem.W.nsIn K mainGlobals "range" = some none)
    (z12 : PySem.W.nsIn K mainGlobals "str" = some none)
    (z13 : PySem.W.nsIn K mainGlobals "tuple" = some none)
    {yt0 : Tok} (y0 : PySem.W.nsIn K mainGlobals "LETTERS" = some (some (Value.str "abcdefghijklmnopqrstuvwxyz" yt0)))
    {yt1 : Tok} (y1 : PySem.W.nsIn K mainGlobals "MOST_NAME" = some (some (Value.int 8 yt1)))
    : ∃ fd : FuncData, (∀ (s : Shared) (v : Value), BindsTo s fd ⟨[v], []⟩ [("_law_script", v)]) ∧ ∀ base : Heap, K.In base → base.Ns mainGlobals mg → FnOk l.prog w K mg base CX0 20 fa fd ["_law_script"] (toSp K (LF 1 f_law)) :=
  have B := all_mk X G aC_Choosing pg_Choosing hd_Choosing po_Choosing sa_Choosing mk_Choosing kc_Choosing nA_Choosing_rules nA_Choosing_things aC_BadRow aC_BadRule aC_BadThing aC_ChoiceError aC_HasAnswer aC_NoChoice aC_NoValue aC_NotStuck aC_Stuck rd_ChoiceError sg_ChoiceError fc_ChoiceError xL_BadRule xsa_BadRule xga_BadRule xgg_BadRule xno_BadRule xkc_BadRule xex_BadRule xty_BadRule xhd_BadRule xcl_BadRule xmr_BadRule em_BadRule_ChoiceError ki_BadRule_BadThing ki_BadRule_BadRule ki_BadRule_BadRow ki_BadRule_HasAnswer ki_BadRule_NoChoice ki_BadRule_NoValue ki_BadRule_NotStuck ki_BadRule_Stuck kb_BadRule_ValueError xL_BadThing xsa_BadThing xga_BadThing xgg_BadThing xno_BadThing xkc_BadThing xex_BadThing xty_BadThing xhd_BadThing xcl_BadThing xmr_BadThing em_BadThing_ChoiceError ki_BadThing_BadThing ki_BadThing_BadRule ki_BadThing_BadRow ki_BadThing_HasAnswer ki_BadThing_NoChoice ki_BadThing_NoValue ki_BadThing_NotStuck ki_BadThing_Stuck kb_BadThing_ValueError xcb_ChoiceError xci_ChoiceError xct_ChoiceError xsn xtk a0 i0 l0 c0 k0 a1 i1 l1 c1 k1 a2 l2 c2 k2 a3 l3 c3 k3 a4 l4 c4 k4 a5 l5 c5 k5 a6 l6 c6 k6 a7 l7 c7 k7 a8 l8 c8 k8 a9 l9 c9 k9 a10 i10 l10 c10 k10 a11 l11 c11 k11 a12 l12 c12 k12 a13 l13 c13 k13 a14 l14 c14 k14 a15 l15 c15 k15 a16 l16 c16 k16 a17 l17 c17 k17 a18 l18 c18 k18 a19 l19 c19 k19 a20 l20 c20 k20 z0 z1 z2 z3 z4 z5 z6 z7 z8 z9 z10 z11 z12 z13 y0 y1
  DL.law_fn hmg B.t_law (fun base f fd F => c_law B F)
end Y
open PySem PySem.W PyProof.Rows
set_option maxHeartbeats 0 in
theorem PySem.Challenge.cw_choosewright_k02_things_that_are_none_holds : PySem.Challenge.rw_choosewright_k02_things_that_are_none.Holds := by
  w_on; o_law; k_head; (case hw => w_witness2)
  k_fill
  refine L2.walk_of (l := PySem.Challenge.rw_choosewright_k02_things_that_are_none) (n := 63) (k := 20) (x := "_law_script") (CX := fun _ => L2.CX0) (sp := fun w => DL.toSp _ (DL.LF 1 Y.f_law)) rfl (by decide) rfl ⟨rfl, by decide, by decide⟩ (fun w h Y => PySem.W.kIn_of Y) ?F (fun _ H a ns hl _ hS => DL.law_sp hS (Y.law_pre ns hl)) (fun _ _ _ _ _ h => h)
  case F =>
    intro w mg fa h KX G hmg
    refine' Y.law_end KX G hmg ?aC_Choosing ?pg_Choosing ?hd_Choosing ?po_Choosing ?sa_Choosing ?mk_Choosing ?kc_Choosing ?nA_Choosing_rules ?nA_Choosing_things ?aC_BadRow ?aC_BadRule ?aC_BadThing ?aC_ChoiceError ?aC_HasAnswer ?aC_NoChoice ?aC_NoValue ?aC_NotStuck ?aC_Stuck ?rd_ChoiceError ?sg_ChoiceError ?fc_ChoiceError ?xL_BadRule ?xsa_BadRule ?xga_BadRule ?xgg_BadRule ?xno_BadRule ?xkc_BadRule ?xex_BadRule ?xty_BadRule ?xhd_BadRule ?xcl_BadRule ?xmr_BadRule ?em_BadRule_ChoiceError ?ki_BadRule_BadThing ?ki_BadRule_BadRule ?ki_BadRule_BadRow ?ki_BadRule_HasAnswer ?ki_BadRule_NoChoice ?ki_BadRule_NoValue ?ki_BadRule_NotStuck ?ki_BadRule_Stuck ?kb_BadRule_ValueError ?xL_BadThing ?xsa_BadThing ?xga_BadThing ?xgg_BadThing ?xno_BadThing ?xkc_BadThing ?xex_BadThing ?xty_BadThing ?xhd_BadThing ?xcl_BadThing ?xmr_BadThing ?em_BadThing_ChoiceError ?ki_BadThing_BadThing ?ki_BadThing_BadRule ?ki_BadThing_BadRow ?ki_BadThing_HasAnswer ?ki_BadThing_NoChoice ?ki_BadThing_NoValue ?ki_BadThing_NotStuck ?ki_BadThing_Stuck ?kb_BadThing_ValueError ?xcb_ChoiceError ?xci_ChoiceError ?xct_ChoiceError ?xsn ?xtk ?a0 ?i0 ?l0 ?c0 ?k0 ?a1 ?i1 ?l1 ?c1 ?k1 ?a2 ?l2 ?c2 ?k2 ?a3 ?l3 ?c3 ?k3 ?a4 ?l4 ?c4 ?k4 ?a5 ?l5 ?c5 ?k5 ?a6 ?l6 ?c6 ?k6 ?a7 ?l7 ?c7 ?k7 ?a8 ?l8 ?c8 ?k8 ?a9 ?l9 ?c9 ?k9 ?a10 ?i10 ?l10 ?c10 ?k10 ?a11 ?l11 ?c11 ?k11 ?a12 ?l12 ?c12 ?k12 ?a13 ?l13 ?c13 ?k13 ?a14 ?l14 ?c14 ?k14 ?a15 ?l15 ?c15 ?k15 ?a16 ?l16 ?c16 ?k16 ?a17 ?l17 ?c17 ?k17 ?a18 ?l18 ?c18 ?k18 ?a19 ?l19 ?c19 ?k19 ?a20 ?l20 ?c20 ?k20 ?z0 ?z1 ?z2 ?z3 ?z4 ?z5 ?z6 ?z7 ?z8 ?z9 ?z10 ?z11 ?z12 ?z13 ?y0 ?y1
    (case aC_Choosing => k_is); (case pg_Choosing => k_is); (case hd_Choosing => k_is); (case po_Choosing => k_is); (case sa_Choosing => k_is); (case mk_Choosing => k_is); (case kc_Choosing => k_is); (case nA_Choosing_rules => k_is); (case nA_Choosing_things => k_is); (case aC_BadRow => k_is); (case aC_BadRule => k_is); (case aC_BadThing => k_is); (case aC_ChoiceError => k_is); (case aC_HasAnswer => k_is); (case aC_NoChoice => k_is); (case aC_NoValue => k_is); (case aC_NotStuck => k_is); (case aC_Stuck => k_is); (case rd_ChoiceError => k_is); (case sg_ChoiceError => k_is); (case fc_ChoiceError => k_is); (case xL_BadRule => k_is); (case xsa_BadRule => k_is); (case xga_BadRule => k_is); (case xgg_BadRule => k_is); (case xno_BadRule => k_is); (case xkc_BadRule => k_is); (case xex_BadRule => k_is); (case xty_BadRule => k_is); (case xhd_BadRule => k_is); (case xcl_BadRule => k_is); (case xmr_BadRule => k_is); (case em_BadRule_ChoiceError => first | rfl | k_is); (case ki_BadRule_BadThing => kit_is); (case ki_BadRule_BadRule => kit_is); (case ki_BadRule_BadRow => kit_is); (case ki_BadRule_HasAnswer => kit_is); (case ki_BadRule_NoChoice => kit_is); (case ki_BadRule_NoValue => kit_is); (case ki_BadRule_NotStuck => kit_is); (case ki_BadRule_Stuck => kit_is); (case kb_BadRule_ValueError => kit_is); (case xL_BadThing => k_is); (case xsa_BadThing => k_is); (case xga_BadThing => k_is); (case xgg_BadThing => k_is); (case xno_BadThing => k_is); (case xkc_BadThing => k_is); (case xex_BadThing => k_is); (case xty_BadThing => k_is); (case xhd_BadThing => k_is); (case xcl_BadThing => k_is); (case xmr_BadThing => k_is); (case em_BadThing_ChoiceError => first | rfl | k_is); (case ki_BadThing_BadThing => kit_is); (case ki_BadThing_BadRule => kit_is); (case ki_BadThing_BadRow => kit_is); (case ki_BadThing_HasAnswer => kit_is); (case ki_BadThing_NoChoice => kit_is); (case ki_BadThing_NoValue => kit_is); (case ki_BadThing_NotStuck => kit_is); (case ki_BadThing_Stuck => kit_is); (case kb_BadThing_ValueError => kit_is); (case xcb_ChoiceError => k_is); (case xci_ChoiceError => k_is); (case xct_ChoiceError => k_is); (case xsn => k_is); (case xtk => k_is); (case a0 => k_is); (case i0 => k_is); (case l0 => k_is); (case c0 => k_is); (case k0 => k_is); (case a1 => k_is); (case i1 => k_is); (case l1 => k_is); (case c1 => k_is); (case k1 => k_is); (case a2 => k_is); (case l2 => k_is); (case c2 => k_is); (case k2 => k_is); (case a3 => k_is); (case l3 => k_is); (case c3 => k_is); (case k3 => k_is); (case a4 => k_is); (case l4 => k_is); (case c4 => k_is); (case k4 => k_is); (case a5 => k_is); (case l5 => k_is); (case c5 => k_is); (case k5 => k_is); (case a6 => k_is); (case l6 => k_is); (case c6 => k_is); (case k6 => k_is); (case a7 => k_is); (case l7 => k_is); (case c7 => k_is); (case k7 => k_is); (case a8 => k_is); (case l8 => k_is); (case c8 => k_is); (case k8 => k_is); (case a9 => k_is); (case l9 => k_is); (case c9 => k_is); (case k9 => k_is); (case a10 => k_is); (case i10 => k_is); (case l10 => k_is); (case c10 => k_is); (case k10 => k_is); (case a11 => k_is); (case l11 => k_is); (case c11 => k_is); (case k11 => k_is); (case a12 => k_is); (case l12 => k_is); (case c12 => k_is); (case k12 => k_is); (case a13 => k_is); (case l13 => k_is); (case c13 => k_is); (case k13 => k_is); (case a14 => k_is); (case l14 => k_is); (case c14 => k_is); (case k14 => k_is); (case a15 => k_is); (case l15 => k_is); (case c15 => k_is); (case k15 => k_is); (case a16 => k_is); (case l16 => k_is); (case c16 => k_is); (case k16 => k_is); (case a17 => k_is); (case l17 => k_is); (case c17 => k_is); (case k17 => k_is); (case a18 => k_is); (case l18 => k_is); (case c18 => k_is); (case k18 => k_is); (case a19 => k_is); (case l19 => k_is); (case c19 => k_is); (case k19 => k_is); (case a20 => k_is); (case l20 => k_is); (case c20 => k_is); (case k20 => k_is); (case z0 => k_is); (case z1 => k_is); (case z2 => k_is); (case z3 => k_is); (case z4 => k_is); (case z5 => k_is); (case z6 => k_is); (case z7 => k_is); (case z8 => k_is); (case z9 => k_is); (case z10 => k_is); (case z11 => k_is); (case z12 => k_is); (case z13 => k_is); (case y0 => k_is); (case y1 => k_is)
