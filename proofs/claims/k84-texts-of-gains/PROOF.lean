import PyProof.Rows.All
import Wide.All
import OpenK.AllK
import Wide.FinOn
import HandS.ForExc
import HandS.ForMost
import HandS.Deep
import HandS.TupAny
import HandS.TupMul
import HandS.Wide
import HandS.WideBits
import HandS.Gcd
import HandS.IsInst
import HandS.CallLocal
import HandS.Defaults
import HandS.Iter
import KE.SortData
import HandS.RaiseMore
import HandS.TupSets
import KE.GoesEnum
import HandS.Text
import KE.DataMinMax
import HandS.TryMany
import HandS.ExcIs
import HandS.ExcField
import HandS.ExcOwn
import HandS.Words
import KE.KExcSuper
import HandS.ExcInit
import HandS.WordsExc
import HandS.HeadHook4
import HandS.Head0
import HandS.Head1
import HandS.Head2
import HandS.Head3
import HandS.HeadEnd
import HandS.HeadHook1
import HandS.HeadHook2
import HandS.Zip
import KE.GoesComp2
import HandS.Dict
import KE.KDictList
import HandS.Codes
import PySem.Challenge.RW_sequencesandadvice_k84_texts_of_gains_an
section
set_option Elab.async false
set_option linter.all false
set_option maxRecDepth 100000
set_option autoImplicit false
/-! Fl, part A: value trees, abstract environments, the relation to slots and heaps. -/
namespace Fl
open PySem PySem.Spec PyProof.Rows L2

/-- values as trees: tuples by value; lst: a list that nobody changes any more; scr: the script; fn: a def by its name -/
inductive D where
  | non | bl (b : Bool) | int (i : Int) | str (s : Str) | tup (xs : List D) | lst (xs : List D) | scr (ns : List Int) | fn (f : Str) | dct (kvs : List (Key × D))
  deriving Inhabited

/-- what the names mean; the slot that holds a caught exception -/
structure Cau where
  slot : Nat
  a : Addr
  pay : Option (Addr × Str × V × D)
structure Mg where
  f : Str → Option Value
  ex : Option Cau := none
instance : CoeFun Mg (fun _ => Str → Option Value) := ⟨Mg.f⟩
mutual
inductive Rp (mg : Mg) (G : Hp) : V → D → Prop
  | non : Rp mg G .non .non
  | bl (b : Bool) : Rp mg G (.bl b) (.bl b)
  | int (i : Int) : Rp mg G (.int i) (.int i)
  | str (x : Str) : Rp mg G (.str x) (.str x)
  | tup {a : Addr} {xs : List V} {ds : List D} : G a = some (.tup xs) → RpA mg G xs ds → Rp mg G (.ref a) (.tup ds)
  | lst {a : Addr} {xs : List V} {ds : List D} : G a = some (.lst xs) → RpA mg G xs ds → Rp mg G (.ref a) (.lst ds)
  | scr {a : Addr} {o : Obj} {ns : List Int} : G a = some (.frz o (.lst (ns.map V.int))) → Rp mg G (.ref a) (.scr ns)
  | fn {a : Addr} {f : Str} : mg f = some (.ref a) → Rp mg G (.ref a) (.fn f)
  | dct {a : Addr} {o : Obj} {vs : List (Key × V)} {kvs : List (Key × D)} : G a = some (.frz o (.dK vs)) → RpK mg G vs kvs → Rp mg G (.ref a) (.dct kvs)
inductive RpA (mg : Mg) (G : Hp) : List V → List D → Prop
  | nil : RpA mg G [] []
  | cons {v : V} {vs : List V} {d : D} {ds : List D} : Rp mg G v d → RpA mg G vs ds → RpA mg G (v :: vs) (d :: ds)
inductive RpK (mg : Mg) (G : Hp) : List (Key × V) → List (Key × D) → Prop
  | nil : RpK mg G [] []
  | cons {k : Key} {v : V} {vs : List (Key × V)} {d : D} {ds : List (Key × D)} : Rp mg G v d → RpK mg G vs ds → RpK mg G ((k, v) :: vs) ((k, d) :: ds)
end

section
variable {mg : Mg} {G G' : Hp}
mutual
theorem Rp.mono (h : Same G G') : ∀ {v : V} {d : D}, Rp mg G v d → Rp mg G' v d
  | _, .non, .non => .non
  | _, .bl _, .bl _ => .bl _
  | _, .int _, .int _ => .int _
  | _, .str _, .str _ => .str _
  | _, .tup _, .tup e r => .tup (h _ _ e) (RpA.mono h r)
  | _, .lst _, .lst e r => .lst (h _ _ e) (RpA.mono h r)
  | _, .scr _, .scr e => .scr (h _ _ e)
  | _, .fn _, .fn e => .fn e
  | _, .dct _, .dct e r => .dct (h _ _ e) (RpK.mono h r)
theorem RpA.mono (h : Same G G') : ∀ {vs : List V} {ds : List D}, RpA mg G vs ds → RpA mg G' vs ds
  | _, [], .nil => .nil
  | _, _ :: _, .cons r t => .cons (Rp.mono h r) (RpA.mono h t)
theorem RpK.mono (h : Same G G') : ∀ {vs : List (Key × V)} {ds : List (Key × D)}, RpK mg G vs ds → RpK mg G' vs ds
  | _, [], .nil => .nil
  | _, _ :: _, .cons r t => .cons (Rp.mono h r) (RpK.mono h t)
end
theorem RpA.length : ∀ {vs : List V} {ds : List D}, RpA mg G vs ds → vs.length = ds.length
  | _, _, .nil => rfl
  | _, _, .cons _ t => by rw [List.length_cons, List.length_cons, RpA.length t]
theorem RpA.get : ∀ {vs : List V} {ds : List D} {i : Nat} {d : D}, RpA mg G vs ds → ds[i]? = some d → ∃ v, vs[i]? = some v ∧ Rp mg G v d
  | _, _, _, _, .nil, e => by simp at e
  | _, _, 0, _, .cons r _, e => by simp at e; subst e; exact ⟨_, rfl, r⟩
  | _, _, i + 1, d, .cons _ t, e => by
    obtain ⟨u, h1, h2⟩ := RpA.get (i := i) (d := d) t (by simpa using e)
    exact ⟨u, by simpa using h1, h2⟩
theorem RpA.get' : ∀ {vs : List V} {ds : List D} {i : Nat} {v : V}, RpA mg G vs ds → vs[i]? = some v → ∃ d, ds[i]? = some d ∧ Rp mg G v d
  | _, _, _, _, .nil, e => by simp at e
  | _, _, 0, _, .cons r _, e => by simp at e; subst e; exact ⟨_, rfl, r⟩
  | _, _, i + 1, d, .cons _ t, e => by
    obtain ⟨u, h1, h2⟩ := RpA.get' (i := i) t (by simpa using e)
    exact ⟨u, by simpa using h1, h2⟩
theorem RpA.append : ∀ {xs ys : List V} {ds es : List D}, RpA mg G xs ds → RpA mg G ys es → RpA mg G (xs ++ ys) (ds ++ es)
  | _, _, _, _, .nil, s => s
  | _, _, _, _, .cons r t, s => .cons r (RpA.append t s)
theorem RpA.take : ∀ {xs : List V} {ds : List D} (n : Nat), RpA mg G xs ds → RpA mg G (xs.take n) (ds.take n)
  | _, _, 0, _ => .nil
  | _, _, _ + 1, .nil => .nil
  | _, _, n + 1, .cons r t => .cons r (RpA.take n t)
theorem RpA.drop : ∀ {xs : List V} {ds : List D} (n : Nat), RpA mg G xs ds → RpA mg G (xs.drop n) (ds.drop n)
  | _, _, 0, r => r
  | _, _, _ + 1, .nil => .nil
  | _, _, n + 1, .cons _ t => RpA.drop n t
theorem RpA.set {v : V} {d : D} (r : Rp mg G v d) : ∀ {xs : List V} {ds : List D} (i : Nat), RpA mg G xs ds → RpA mg G (xs.set i v) (ds.set i d)
  | _, _, _, .nil => .nil
  | _, _, 0, .cons _ t => .cons r t
  | _, _, i + 1, .cons q t => .cons q (RpA.set r i t)
theorem RpA.ints : ∀ {vs : List V} {ns : List Int}, RpA mg G vs (ns.map D.int) → vs = ns.map V.int
  | _, [], .nil => rfl
  | _, _ :: _, .cons (.int _) t => by rw [RpA.ints t]; rfl
theorem RpA.ofInts : ∀ (ns : List Int), RpA mg G (ns.map V.int) (ns.map D.int)
  | [] => .nil
  | _ :: r => .cons (.int _) (RpA.ofInts r)
theorem RpA.strs : ∀ {vs : List V} {ns : List Str}, RpA mg G vs (ns.map D.str) → vs = ns.map V.str
  | _, [], .nil => rfl
  | _, _ :: _, .cons (.str _) t => by rw [RpA.strs t]; rfl
theorem RpA.ofStrs : ∀ (ns : List Str), RpA mg G (ns.map V.str) (ns.map D.str)
  | [] => .nil
  | _ :: r => .cons (.str _) (RpA.ofStrs r)
end

/-! ### heaps that grow -/
theorem Same.rfl {H : Hp} : Same H H := fun _ _ e => e
structure Ext (G H G' H' : Hp) : Prop where
  hH : Same H H'
  hG : Same G G'
  hs : Same G' H'
  hn : ∀ a, G a = none → G' a ≠ none → H a = none
theorem Ext.refl {G H : Hp} (h : Same G H) : Ext G H G H := ⟨Same.rfl, Same.rfl, h, fun _ e n => absurd e n⟩
theorem Ext.trans {G H G1 H1 G2 H2 : Hp} (a : Ext G H G1 H1) (b : Ext G1 H1 G2 H2) : Ext G H G2 H2 where
  hH := a.hH.trans b.hH
  hG := a.hG.trans b.hG
  hs := b.hs
  hn := fun x e n => by
    cases q : G1 x with
    | some o => exact a.hn x e (by rw [q]; simp)
    | none =>
      have h1 := b.hn x q n
      cases z : H x with
      | none => rfl
      | some o => rw [a.hH _ _ z] at h1; cases h1
theorem none_of_same {G H : Hp} (s : Same G H) {p : Addr} (e : H p = none) : G p = none := by
  cases q : G p with
  | none => rfl
  | some o => rw [s _ _ q] at e; cases e
theorem Ext.alloc {G H : Hp} (s : Same G H) {p : Addr} (e : H p = none) (o : HO) : Ext G H (upd G p o) (upd H p o) where
  hH := fun b x q => by rw [upd_ne (ne_of_none q e)]; exact q
  hG := fun b x q => by rw [upd_ne (ne_of_none q (none_of_same s e))]; exact q
  hs := fun b x q => by
    by_cases h : b = p
    · subst h; rw [upd_same] at q ⊢; exact q
    · rw [upd_ne h] at q ⊢; exact s _ _ q
  hn := fun b e1 n => by
    by_cases h : b = p
    · subst h; exact e
    · rw [upd_ne h] at n; exact absurd e1 n
theorem same_alloc {G H : Hp} (s : Same G H) {p : Addr} (e : H p = none) (o : HO) : Same G (upd H p o) := fun b x q => by
  rw [upd_ne (ne_of_none (s _ _ q) e)]; exact s _ _ q

/-! ### environments -/
inductive Dv where
  | p (d : D)
  | o (io : Bool) (ds : List D)
  | k (io : Bool) (kvs : List (Key × D))
  | x
  deriving Inhabited
abbrev Env := List (Option Dv)
def Dv.isP : Dv → Bool
  | .p _ => true
  | .x => true
  | _ => false
def Dv.io : Dv → Bool
  | .p _ => false
  | .o f _ => f
  | .k f _ => f
  | .x => true
def Dv.setIo (b : Bool) : Dv → Dv
  | .p d => .p d
  | .o _ ds => .o b ds
  | .k _ ds => .k b ds
  | .x => .x
theorem Dv.setIo_isP (b : Bool) (w : Dv) : (w.setIo b).isP = w.isP := by cases w <;> rfl
theorem Dv.setIo_io {b : Bool} {w : Dv} (h : w.isP = false) : (w.setIo b).io = b := by cases w <;> first | rfl | cases h
theorem Dv.setIo_self {w : Dv} : w.setIo w.io = w := by cases w <;> rfl

def KvA (mg : Mg) (G : Hp) : List (Key × V) → List (Key × D) → Prop := Paired fun p q => p.1 = q.1 ∧ Rp mg G p.2 q.2
/-- what stands at an owned address -/
def Own (mg : Mg) (G H : Hp) (a : Addr) : Dv → Prop
  | .p _ => False
  | .x => False
  | .o _ ds => ∃ xs, H a = some (.lst xs) ∧ RpA mg G xs ds
  | .k _ kvs => ∃ vs, H a = some (.dK vs) ∧ KvA mg G vs kvs
theorem RpK.kv {mg : Mg} {G : Hp} : ∀ {vs : List (Key × V)} {ds : List (Key × D)}, RpK mg G vs ds → KvA mg G vs ds
  | _, _, .nil => .nil
  | _, _, .cons r t => .cons ⟨rfl, r⟩ (RpK.kv t)
theorem KvA.rk {mg : Mg} {G : Hp} : ∀ {vs : List (Key × V)} {ds : List (Key × D)}, KvA mg G vs ds → RpK mg G vs ds
  | _, _, .nil => .nil
  | (k, v) :: _, (k2, d) :: _, .cons r t => by
    obtain ⟨e, r⟩ := r
    have e : k = k2 := e
    subst e
    exact .cons r (KvA.rk t)
theorem KvA.mono {mg : Mg} {G G' : Hp} (h : Same G G') : ∀ {vs : List (Key × V)} {ds : List (Key × D)}, KvA mg G vs ds → KvA mg G' vs ds
  | _, _, .nil => .nil
  | _, _, .cons r t => .cons ⟨r.1, r.2.mono h⟩ (KvA.mono h t)
theorem Own.setIo {mg : Mg} {G H : Hp} {a : Addr} {w : Dv} {b : Bool} (h : Own mg G H a w) : Own mg G H a (w.setIo b) := by cases w <;> exact h
theorem Own.ext {mg : Mg} {G H G' H' : Hp} (hG : Same G G') (hH : Same H H') {a : Addr} {w : Dv} (h : Own mg G H a w) : Own mg G' H' a w := by
  cases w with
  | p _ => exact h
  | x => exact h
  | o _ ds => obtain ⟨xs, e, r⟩ := h; exact ⟨xs, hH _ _ e, r.mono hG⟩
  | k _ ds => obtain ⟨xs, e, r⟩ := h; exact ⟨xs, hH _ _ e, KvA.mono hG r⟩
theorem Own.some {mg : Mg} {G H : Hp} {a : Addr} {w : Dv} (h : Own mg G H a w) : ∃ o, H a = some o := by
  cases w with
  | p _ => exact h.elim
  | x => exact h.elim
  | o _ ds => obtain ⟨xs, e, r⟩ := h; exact ⟨_, e⟩
  | k _ ds => obtain ⟨xs, e, r⟩ := h; exact ⟨_, e⟩

/-- the entry of the def: its heap, the part of it that is told by trees, the addresses that it may change (by slot) -/
structure Fr where
  H0 : Hp
  G0 : Hp
  ios : List (Nat × Addr)

/-- the caught exception's dict stands, out of the reach of the trees -/
def CauP (mg : Mg) (G H : Hp) (c : Cau) : Prop := ∀ p, c.pay = some p → H p.1 = some (.xd [(p.2.1, p.2.2.1)]) ∧ G p.1 = none ∧ Rp mg G p.2.2.1 p.2.2.2
theorem CauP.ext {mg : Mg} {G H G' H' : Hp} {c : Cau} (h : CauP mg G H c) (x : Ext G H G' H') : CauP mg G' H' c := fun p e => by
  obtain ⟨h1, h2, h3⟩ := h p e
  refine ⟨x.hH _ _ h1, ?_, h3.mono x.hG⟩
  cases q : G' p.1 with
  | none => rfl
  | some o => have y := x.hn _ h2 (by rw [q]; simp); rw [h1] at y; cases y
theorem CauP.upd {mg : Mg} {G H : Hp} {c : Cau} (h : CauP mg G H c) {b : Addr} {o : HO} (n : ∀ fs, H b ≠ some (HO.xd fs)) : CauP mg G (L2.upd H b o) c := fun p e => by
  obtain ⟨h1, h2, h3⟩ := h p e
  exact ⟨by rw [upd_ne (fun z => n _ (by rw [← z]; exact h1))]; exact h1, h2, h3⟩
theorem CauP.grow {mg : Mg} {G H : Hp} {c : Cau} (h : CauP mg G H c) {b : Addr} {o : HO} (n : ∀ fs, H b ≠ some (HO.xd fs)) (s : Same G (L2.upd G b o)) : CauP mg (L2.upd G b o) H c := fun p e => by
  obtain ⟨h1, h2, h3⟩ := h p e
  exact ⟨h1, by rw [upd_ne (fun z => n _ (by rw [← z]; exact h1))]; exact h2, h3.mono s⟩
theorem own_notX {mg : Mg} {G H : Hp} {a : Addr} {w : Dv} (h : Own mg G H a w) (fs : List (Str × V)) : H a ≠ some (HO.xd fs) := fun z : H a = some (HO.xd fs) => by
  cases w with
  | p _ => exact h
  | x => exact h
  | o _ ds => obtain ⟨xs, e, r⟩ := h; rw [z] at e; cases e
  | k _ ds => obtain ⟨xs, e, r⟩ := h; rw [z] at e; cases e
structure Rel (mg : Mg) (F : Fr) (G : Hp) (ρ : Env) (σ : L2.St) (H : Hp) : Prop where
  len : σ.length = ρ.length
  sub : Same G H
  g0 : Same F.G0 G
  h0 : ∀ a o, F.H0 a = some o → (∀ i, (i, a) ∉ F.ios) → H a = some o
  sep : ∀ a, F.H0 a ≠ none → F.G0 a = none → G a = none
  pure : ∀ (i : Nat) (d : D), ρ[i]? = some (some (.p d)) → ∃ v, σ[i]? = some (some v) ∧ Rp mg G v d
  own : ∀ (i : Nat) (w : Dv), ρ[i]? = some (some w) → w.isP = false → ∃ a, σ[i]? = some (some (.ref a)) ∧ G a = none ∧ Own mg G H a w ∧ (w.io = false → F.H0 a = none) ∧ (w.io = true → (i, a) ∈ F.ios)
  dist : ∀ (i j : Nat) (w u : Dv) (a : Addr), i ≠ j → ρ[i]? = some (some w) → ρ[j]? = some (some u) → w.isP = false → u.isP = false → σ[i]? = some (some (.ref a)) → σ[j]? = some (some (.ref a)) → False
  ios : ∀ (i : Nat) (a : Addr), (i, a) ∈ F.ios → σ[i]? = some (some (.ref a)) ∧ ∃ w : Dv, ρ[i]? = some (some w) ∧ w.isP = false ∧ w.io = true
  fix : ∀ c : Cau, mg.ex = some c → (σ[c.slot]? = some (some (.ref c.a)) ∧ ρ[c.slot]? = some (some .x)) ∧ CauP mg G H c

section
variable {mg : Mg} {F : Fr} {G G' : Hp} {ρ : Env} {σ : L2.St} {H H' : Hp}
theorem Rel.h0io (R : Rel mg F G ρ σ H) {i : Nat} {a : Addr} (h : (i, a) ∈ F.ios) : ∃ o, H a = some o := by
  obtain ⟨e, w, hw, hp, _⟩ := R.ios i a h
  obtain ⟨b, e2, _, ow, _⟩ := R.own i w hw hp
  rw [e] at e2
  cases e2
  exact ow.some
theorem Rel.old (R : Rel mg F G ρ σ H) {a : Addr} (h : F.H0 a ≠ none) : H a ≠ none := by
  cases q : F.H0 a with
  | none => exact absurd q h
  | some o =>
    by_cases z : ∃ i, (i, a) ∈ F.ios
    · obtain ⟨i, hi⟩ := z
      obtain ⟨o, e⟩ := R.h0io hi
      rw [e]; simp
    · rw [R.h0 a o q (fun i hi => z ⟨i, hi⟩)]; simp
/-- the heap grows by trees -/
theorem Rel.ext (R : Rel mg F G ρ σ H) (x : Ext G H G' H') : Rel mg F G' ρ σ H' where
  len := R.len
  sub := x.hs
  g0 := R.g0.trans x.hG
  h0 := fun a o e n => x.hH _ _ (R.h0 a o e n)
  sep := fun a n e => by
    have g := R.sep a n e
    cases q : G' a with
    | none => rfl
    | some o => exact absurd (x.hn a g (by rw [q]; simp)) (R.old n)
  pure := fun i d e => by
    obtain ⟨v, h1, h2⟩ := R.pure i d e
    exact ⟨v, h1, h2.mono x.hG⟩
  own := fun i w e p => by
    obtain ⟨a, h1, h2, h3, h4, h5⟩ := R.own i w e p
    refine ⟨a, h1, ?_, h3.ext x.hG x.hH, h4, h5⟩
    cases q : G' a with
    | none => rfl
    | some o =>
      obtain ⟨o2, e2⟩ := h3.some
      rw [x.hn a h2 (by rw [q]; simp)] at e2
      cases e2
  dist := R.dist
  ios := R.ios
  fix := fun c e => ⟨(R.fix c e).1, (R.fix c e).2.ext x⟩
/-- a slot takes a tree -/
theorem Rel.setP (R : Rel mg F G ρ σ H) {i : Nat} {v : V} {d : D} (r : Rp mg G v d) (n : ∀ w : Dv, ρ[i]? = some (some w) → w.io = false) : Rel mg F G (ρ.set i (some (.p d))) (σ.set i (some v)) H where
  len := by rw [List.length_set, List.length_set]; exact R.len
  sub := R.sub
  g0 := R.g0
  h0 := R.h0
  sep := R.sep
  pure := fun j d' e => by
    by_cases h : i = j
    · subst h
      rw [List.getElem?_set] at e ⊢
      simp only [if_true] at e ⊢
      split at e
      · rename_i hl
        cases e
        rw [if_pos (by rw [R.len]; exact hl)]
        exact ⟨v, rfl, r⟩
      · cases e
    · rw [List.getElem?_set_ne h] at e ⊢
      exact R.pure j d' e
  own := fun j w e p => by
    by_cases h : i = j
    · subst h
      rw [List.getElem?_set] at e
      simp only [if_true] at e
      split at e
      · cases e; cases p
      · cases e
    · rw [List.getElem?_set_ne h] at e ⊢
      exact R.own j w e p
  dist := fun j k w u a hne e1 e2 p1 p2 s1 s2 => by
    by_cases h : i = j
    · subst h
      rw [List.getElem?_set] at e1
      simp only [if_true] at e1
      split at e1
      · cases e1; cases p1
      · cases e1
    · by_cases h2 : i = k
      · subst h2
        rw [List.getElem?_set] at e2
        simp only [if_true] at e2
        split at e2
        · cases e2; cases p2
        · cases e2
      · rw [List.getElem?_set_ne h] at e1 s1
        rw [List.getElem?_set_ne h2] at e2 s2
        exact R.dist j k w u a hne e1 e2 p1 p2 s1 s2
  ios := fun j a hj => by
    obtain ⟨e, w, hw, hp, hi⟩ := R.ios j a hj
    by_cases h : i = j
    · subst h
      rw [n w hw] at hi
      cases hi
    · rw [List.getElem?_set_ne h, List.getElem?_set_ne h]
      exact ⟨e, w, hw, hp, hi⟩
  fix := fun c hj => by
    obtain ⟨⟨h1, h2⟩, h3⟩ := R.fix c hj
    by_cases h : i = c.slot
    · subst h; exact absurd (n _ h2) (by simp [Dv.io])
    · rw [List.getElem?_set_ne h, List.getElem?_set_ne h]; exact ⟨⟨h1, h2⟩, h3⟩
/-- a slot takes an own new object -/
theorem Rel.setO (R : Rel mg F G ρ σ H) {i : Nat} {a : Addr} {w : Dv} (hw : w.isP = false) (hio : w.io = false) (hg : G a = none) (ho : Own mg G H a w) (hf : F.H0 a = none)
    (hd : ∀ (j : Nat) (u : Dv), ρ[j]? = some (some u) → u.isP = false → σ[j]? = some (some (.ref a)) → False)
    (n : ∀ w : Dv, ρ[i]? = some (some w) → w.io = false) : Rel mg F G (ρ.set i (some w)) (σ.set i (some (.ref a))) H where
  len := by rw [List.length_set, List.length_set]; exact R.len
  sub := R.sub
  g0 := R.g0
  h0 := R.h0
  sep := R.sep
  pure := fun j d' e => by
    by_cases h : i = j
    · subst h
      rw [List.getElem?_set] at e
      simp only [if_true] at e
      split at e
      · cases e; cases hw
      · cases e
    · rw [List.getElem?_set_ne h] at e ⊢
      exact R.pure j d' e
  own := fun j u e p => by
    by_cases h : i = j
    · subst h
      rw [List.getElem?_set] at e ⊢
      simp only [if_true] at e ⊢
      split at e
      · rename_i hl
        cases e
        rw [if_pos (by rw [R.len]; exact hl)]
        exact ⟨a, rfl, hg, ho, fun _ => hf, fun q => by rw [hio] at q; cases q⟩
      · cases e
    · rw [List.getElem?_set_ne h] at e ⊢
      exact R.own j u e p
  dist := fun j k w' u a' hne e1 e2 p1 p2 s1 s2 => by
    by_cases h : i = j
    · subst h
      rw [List.getElem?_set_ne hne] at e2 s2
      rw [List.getElem?_set] at s1
      simp only [if_true] at s1
      split at s1
      · cases s1
        exact hd k u e2 p2 s2
      · cases s1
    · by_cases h2 : i = k
      · subst h2
        rw [List.getElem?_set_ne h] at e1 s1
        rw [List.getElem?_set] at s2
        simp only [if_true] at s2
        split at s2
        · cases s2
          exact hd j w' e1 p1 s1
        · cases s2
      · rw [List.getElem?_set_ne h] at e1 s1
        rw [List.getElem?_set_ne h2] at e2 s2
        exact R.dist j k w' u a' hne e1 e2 p1 p2 s1 s2
  ios := fun j a hj => by
    obtain ⟨e, w, hw, hp, hi⟩ := R.ios j a hj
    by_cases h : i = j
    · subst h
      rw [n w hw] at hi
      cases hi
    · rw [List.getElem?_set_ne h, List.getElem?_set_ne h]
      exact ⟨e, w, hw, hp, hi⟩
  fix := fun c hj => by
    obtain ⟨⟨h1, h2⟩, h3⟩ := R.fix c hj
    by_cases h : i = c.slot
    · subst h; exact absurd (n _ h2) (by simp [Dv.io])
    · rw [List.getElem?_set_ne h, List.getElem?_set_ne h]; exact ⟨⟨h1, h2⟩, h3⟩
/-- an owned object changes -/
theorem Rel.mut (R : Rel mg F G ρ σ H) {i : Nat} {a : Addr} {w u : Dv} {o : HO} (e : ρ[i]? = some (some w)) (hp : w.isP = false) (s : σ[i]? = some (some (.ref a))) (hu : u.isP = false) (hio : u.io = w.io)
    (ho : Own mg G (upd H a o) a u) : Rel mg F G (ρ.set i (some u)) σ (upd H a o) := by
  obtain ⟨b, h1, h2, h3, h4, h5⟩ := R.own i w e hp
  rw [s] at h1
  cases h1
  have hl : i < ρ.length := (List.getElem?_eq_some_iff.mp e).1
  refine ⟨by rw [List.length_set]; exact R.len, fun c q z => ?_, R.g0, fun c q z n => ?_, R.sep, fun j d z => ?_, fun j w' z p => ?_, fun j k w1 w2 c hne e1 e2 p1 p2 s1 s2 => ?_, fun j c hj => ?_, fun c hj => ?_⟩
  · rw [upd_ne (fun x => by rw [x, h2] at z; cases z)]
    exact R.sub _ _ z
  · by_cases hc : c = a
    · subst hc
      cases hi : w.io with
      | true => exact absurd (h5 hi) (n i)
      | false => rw [h4 hi] at z; cases z
    · rw [upd_ne hc]
      exact R.h0 c q z n
  · by_cases h : i = j
    · subst h
      rw [List.getElem?_set_self hl] at z
      cases z; cases hu
    · rw [List.getElem?_set_ne h] at z
      exact R.pure j d z
  · by_cases h : i = j
    · subst h
      rw [List.getElem?_set_self hl] at z
      cases z
      exact ⟨a, s, h2, ho, fun q => h4 (by rw [← hio]; exact q), fun q => h5 (by rw [← hio]; exact q)⟩
    · rw [List.getElem?_set_ne h] at z
      obtain ⟨c, g1, g2, g3, g4, g5⟩ := R.own j w' z p
      have hne : c ≠ a := fun x => by subst x; exact R.dist i j w w' c h e z hp p s g1
      refine ⟨c, g1, g2, ?_, g4, g5⟩
      cases w' with
      | p _ => exact g3
      | x => exact g3
      | o _ ds => obtain ⟨xs, q1, q2⟩ := g3; exact ⟨xs, by rw [upd_ne hne]; exact q1, q2⟩
      | k _ ds => obtain ⟨xs, q1, q2⟩ := g3; exact ⟨xs, by rw [upd_ne hne]; exact q1, q2⟩
  · have f1 : ∃ w3, ρ[j]? = some (some w3) ∧ w3.isP = false := by
      by_cases h : i = j
      · subst h; exact ⟨w, e, hp⟩
      · rw [List.getElem?_set_ne h] at e1; exact ⟨_, e1, p1⟩
    have f2 : ∃ w3, ρ[k]? = some (some w3) ∧ w3.isP = false := by
      by_cases h : i = k
      · subst h; exact ⟨w, e, hp⟩
      · rw [List.getElem?_set_ne h] at e2; exact ⟨_, e2, p2⟩
    obtain ⟨w3, q1, q2⟩ := f1
    obtain ⟨w4, q3, q4⟩ := f2
    exact R.dist j k w3 w4 c hne q1 q3 q2 q4 s1 s2
  · obtain ⟨q, w', hw', p', i'⟩ := R.ios j c hj
    refine ⟨q, ?_⟩
    by_cases h : i = j
    · subst h
      rw [List.getElem?_set_self hl]
      rw [e] at hw'
      cases hw'
      exact ⟨u, rfl, hu, by rw [hio]; exact i'⟩
    · rw [List.getElem?_set_ne h]
      exact ⟨w', hw', p', i'⟩
  · obtain ⟨⟨q1, q2⟩, q3⟩ := R.fix c hj
    refine ⟨⟨q1, ?_⟩, q3.upd (own_notX h3)⟩
    by_cases h : i = c.slot
    · subst h; rw [q2] at e; cases e; cases hp
    · rw [List.getElem?_set_ne h]; exact q2
end
end Fl
end

section
set_option Elab.async false
set_option linter.all false
set_option maxRecDepth 100000
set_option autoImplicit false
/-! Fl, part B: families of contexts, outcomes, judgements, expressions. -/
namespace Fl
open PySem PySem.Spec PyProof.Rows L2

/-- the context of a def's own suite -/
structure DefCx (X : Cx) : Prop where
  stack : X.stack = X.env :: X.outer
  frame : X.env.frame = some X.env.locals
  kind : X.env.scope.kind = .function
  ex : X.ex = []
/-- contexts that share what the rules ask (a def's body: one; a comprehension's block: as many as there are starts) -/
structure Fam where
  ι : Type
  X : ι → Cx
  P : Program
  w : World
  K : PySem.W.Frag
  mg : Mg
  base : Heap
  N : List Str
  sc : Scope
  sc0 : Scope
  k : Nat
  W : WX
  hP : ∀ i, (X i).prog = P
  hw : ∀ i, (X i).w = w
  hK : ∀ i, (X i).K = K
  hmg : ∀ i, (X i).mg = mg.f
  hbase : ∀ i, (X i).base = base
  hN : ∀ i, (X i).N = N
  hsc : ∀ i, (X i).env.scope = sc
  nd : N.Nodup
  cal : Bool
  calm : cal = true → ∀ i, (X i).calm = true
  dfn : Bool
  hdfn : dfn = true → ∀ i, DefCx (X i)
  room : ∀ i, (X i).A.depth + 3 * k + 5 < recursionLimit ∧ (X i).A.units + 16 * k + 200 < cLine
  hdl : cal = true → ∀ i, (X i).A.handled = none
  takes : ∀ i, Takes (X i) W
  own : ∀ i, PassesOwn (model (X i).prog (X i).w) (X i).A (X i).env (X i).xe
  hfn : ∀ i x, sc0.names.lookup x = some .cell → (X i).fn x = true
  hloc : ∀ x k, k ≠ .free → sc0.names.lookup x = some k → sc.names.lookup x = some k
theorem Fam.gl (Φ : Fam) {x : Str} (h : Φ.sc.names.lookup x = some .globalImplicit) (i : Φ.ι) : Gl (Φ.X i) x := by
  show (Φ.X i).env.scope.names.lookup x = some .globalImplicit
  rw [Φ.hsc i]; exact h
theorem Fam.mgn (Φ : Fam) {x : Str} {u : Option Value} (h : Φ.mg x = u) (i : Φ.ι) : (Φ.X i).mg x = u := by rw [Φ.hmg i]; exact h
theorem Fam.nx (Φ : Fam) {j : Nat} {x : Str} (h : Φ.N[j]? = some x) (i : Φ.ι) : (Φ.X i).N[j]? = some x := by rw [Φ.hN i]; exact h
theorem Fam.vis (Φ : Fam) {x : Str} (h : Vis Φ.sc x) (i : Φ.ι) : Vis (Φ.X i).env.scope x := by rw [Φ.hsc i]; exact h
theorem Fam.loc (Φ : Fam) {x : Str} (h : Loc Φ.sc0 x) (i : Φ.ι) : Loc (Φ.X i).env.scope x := by
  rw [Φ.hsc i]
  rcases h with h | h
  · exact .inl (Φ.hloc x _ (by simp) h)
  · exact .inr (Φ.hloc x _ (by simp) h)
theorem Fam.fnl (Φ : Fam) {x : Str} (h : Loc Φ.sc0 x) (i : Φ.ι) : (Φ.X i).fn x = true ∨ (Φ.X i).env.scope.names.lookup x = some .local := by
  rcases h with h | h
  · right; rw [Φ.hsc i]; exact Φ.hloc x _ (by simp) h
  · left; exact Φ.hfn i x h
theorem Fam.ndi (Φ : Fam) (i : Φ.ι) : (Φ.X i).N.Nodup := by rw [Φ.hN i]; exact Φ.nd
theorem Fam.rm (Φ : Fam) (hc : Φ.cal = true) (i : Φ.ι) : Room Φ.k (Φ.X i).A := ⟨Φ.hdl hc i, (Φ.room i).1, (Φ.room i).2⟩
theorem Fam.hu (Φ : Fam) (i : Φ.ι) : (Φ.X i).A.units + 65 < cLine := by have := (Φ.room i).2; omega

structure Exn where
  cls : Str
  pay : Option (Str × D)
inductive Out (α : Type) where
  | ok (a : α) (ρ : Env)
  | ex (c : Exn) (ρ : Env)
  | no
abbrev M (α : Type) := Env → Out α
section
variable {α β : Type}
def bindM (m : M α) (f : α → M β) : M β := fun ρ => match m ρ with
  | .ok a ρ' => f a ρ'
  | .ex c ρ' => .ex c ρ'
  | .no => .no
def pureM (a : α) : M α := fun ρ => .ok a ρ
def noM : M α := fun _ => .no
def optM : Option α → M α
  | some a => pureM a
  | none => noM
def Sat (o : Out α) (P : α → Env → Prop) (E : Exn → Env → Prop) : Prop := match o with
  | .ok a ρ => P a ρ
  | .ex c ρ => E c ρ
  | .no => False
theorem Sat.bind {m : M α} {f : α → M β} {ρ : Env} {P : β → Env → Prop} {E : Exn → Env → Prop} (h : Sat (bindM m f ρ) P E) : Sat (m ρ) (fun a ρ' => Sat (f a ρ') P E) E := by
  unfold bindM at h
  cases q : m ρ with
  | ok a ρ' => rw [q] at h; exact h
  | ex c ρ' => rw [q] at h; exact h
  | no => rw [q] at h; exact h
theorem Sat.imp {o : Out α} {P P' : α → Env → Prop} {E E' : Exn → Env → Prop} (h : Sat o P E) (hp : ∀ a ρ, P a ρ → P' a ρ) (he : ∀ c ρ, E c ρ → E' c ρ) : Sat o P' E' := by
  cases o with
  | ok a ρ => exact hp _ _ h
  | ex c ρ => exact he _ _ h
  | no => exact h
theorem Sat.opt {x : Option α} {ρ : Env} {P : α → Env → Prop} {E : Exn → Env → Prop} (h : Sat (optM x ρ) P E) : ∃ a, x = some a ∧ P a ρ := by
  cases x with
  | some a => exact ⟨a, rfl, h⟩
  | none => exact h.elim
end
def ExR (mg : Mg) (c : Exn) (cls : Value) (od : Option Addr) (G H : Hp) : Prop :=
  mg c.cls = some cls ∧ match c.pay with
    | none => od = none
    | some (f, d) => ∃ a v, od = some a ∧ H a = some (.xd [(f, v)]) ∧ Rp mg G v d ∧ G a = none
def ExK (mg : Mg) (W : WX) (F : Fr) (c : Exn) (ρ : Env) : Prop := ∀ G σ H cls od, Rel mg F G ρ σ H → ExR mg c cls od G H → W cls od σ H

/-! ### judgements -/
def HE (mg : Mg) (W : WX) (t : TE) (m : M D) : Prop := ∀ (F : Fr) (G : Hp) (ρ : Env) (σ : L2.St) (H : Hp) (Q : VK), Rel mg F G ρ σ H →
  Sat (m ρ) (fun d ρ' => ∀ G' H' v, Rel mg F G' ρ' σ H' → Same G G' → Rp mg G' v d → Q v H') (ExK mg W F) → t σ H Q
def HT (mg : Mg) (W : WX) (t : TT) (m : M Bool) : Prop := ∀ (F : Fr) (G : Hp) (ρ : Env) (σ : L2.St) (H : Hp) (Q : Bool → Hp → Prop), Rel mg F G ρ σ H →
  Sat (m ρ) (fun b ρ' => ∀ G' H', Rel mg F G' ρ' σ H' → Same G G' → Q b H') (ExK mg W F) → t σ H Q
def HA (mg : Mg) (W : WX) (t : TA) (m : M (List D)) : Prop := ∀ (F : Fr) (G : Hp) (ρ : Env) (σ : L2.St) (H : Hp) (Q : List V → Hp → Prop), Rel mg F G ρ σ H →
  Sat (m ρ) (fun ds ρ' => ∀ G' H' vs, Rel mg F G' ρ' σ H' → Same G G' → RpA mg G' vs ds → Q vs H') (ExK mg W F) → t σ H Q
/-- a new object that nobody holds -/
structure NewO (mg : Mg) (F : Fr) (G : Hp) (ρ : Env) (σ : L2.St) (H : Hp) (a : Addr) (w : Dv) : Prop where
  np : w.isP = false
  nio : w.io = false
  g : G a = none
  own : Own mg G H a w
  h0 : F.H0 a = none
  slot : ∀ (j : Nat) (u : Dv), ρ[j]? = some (some u) → u.isP = false → σ[j]? = some (some (.ref a)) → False
def HO1 (mg : Mg) (W : WX) (t : TE) (m : M Dv) : Prop := ∀ (F : Fr) (G : Hp) (ρ : Env) (σ : L2.St) (H : Hp) (Q : VK), Rel mg F G ρ σ H →
  Sat (m ρ) (fun w ρ' => ∀ G' H' a, Rel mg F G' ρ' σ H' → Same G G' → NewO mg F G' ρ' σ H' a w → Q (.ref a) H') (ExK mg W F) → t σ H Q
/-- a list, a tuple, the script: read at once -/
inductive SK where
  | l | t | s
def SeqV (mg : Mg) (G H : Hp) (v : V) (k : SK) (ds : List D) : Prop := ∃ a xs, v = .ref a ∧ RpA mg G xs ds ∧ match k with
  | .l => H a = some (.lst xs)
  | .t => H a = some (.tup xs)
  | .s => ∃ o, H a = some (.frz o (.lst xs))
def HQ (mg : Mg) (W : WX) (t : TE) (m : M (SK × List D)) : Prop := ∀ (F : Fr) (G : Hp) (ρ : Env) (σ : L2.St) (H : Hp) (Q : VK), Rel mg F G ρ σ H →
  Sat (m ρ) (fun q ρ' => ∀ G' H' v, Rel mg F G' ρ' σ H' → Same G G' → SeqV mg G' H' v q.1 q.2 → Q v H') (ExK mg W F) → t σ H Q
def SE (Φ : Fam) (e : Expr) (m : M D) : Prop := ∃ t, (∀ i, PE (Φ.X i) e t) ∧ HE Φ.mg Φ.W t m
def ST (Φ : Fam) (e : Expr) (m : M Bool) : Prop := ∃ t, (∀ i, PT (Φ.X i) e t) ∧ HT Φ.mg Φ.W t m
def SW (Φ : Fam) (e : Expr) (m : M Bool) : Prop := ∃ t, (∀ i, PW (Φ.X i) e t) ∧ HT Φ.mg Φ.W t m
def SA (Φ : Fam) (es : List Expr) (m : M (List D)) : Prop := ∃ t, (∀ i, PA (Φ.X i) es t) ∧ HA Φ.mg Φ.W t m
def SO (Φ : Fam) (e : Expr) (m : M Dv) : Prop := ∃ t, (∀ i, PE (Φ.X i) e t) ∧ HO1 Φ.mg Φ.W t m
def SQ (Φ : Fam) (e : Expr) (m : M (SK × List D)) : Prop := ∃ t, (∀ i, PE (Φ.X i) e t) ∧ HQ Φ.mg Φ.W t m

section
variable {mg : Mg} {F : Fr} {G G' : Hp} {ρ : Env} {σ : L2.St} {H H' : Hp}
theorem Rel.new (R : Rel mg F G ρ σ H) {a : Addr} (e : H a = none) {w : Dv} {o : HO} (np : w.isP = false) (nio : w.io = false) (ow : Own mg G (upd H a o) a w) :
    Rel mg F G ρ σ (upd H a o) ∧ NewO mg F G ρ σ (upd H a o) a w := by
  have g : G a = none := none_of_same R.sub e
  have h0 : F.H0 a = none := by
    cases q : F.H0 a with
    | none => rfl
    | some x => exact absurd e (R.old (by rw [q]; simp))
  refine ⟨⟨R.len, same_alloc R.sub e o, R.g0, fun b x q n => ?_, R.sep, R.pure, fun i u q p => ?_, R.dist, R.ios, fun c z => ⟨(R.fix c z).1, (R.fix c z).2.upd (fun fs y => by rw [e] at y; cases y)⟩⟩, np, nio, g, ow, h0, fun j u q p s => ?_⟩
  · rw [upd_ne (fun z => by rw [z, h0] at q; cases q)]
    exact R.h0 b x q n
  · obtain ⟨b, h1, h2, h3, h4, h5⟩ := R.own i u q p
    have hne : b ≠ a := fun z => by
      obtain ⟨x, y⟩ := h3.some
      rw [z, e] at y
      cases y
    refine ⟨b, h1, h2, ?_, h4, h5⟩
    cases u with
    | p _ => exact h3
    | x => exact h3
    | o _ ds => obtain ⟨xs, q1, q2⟩ := h3; exact ⟨xs, by rw [upd_ne hne]; exact q1, q2⟩
    | k _ ds => obtain ⟨xs, q1, q2⟩ := h3; exact ⟨xs, by rw [upd_ne hne]; exact q1, q2⟩
  · obtain ⟨b, h1, _, h3, _⟩ := R.own j u q p
    rw [s] at h1
    cases h1
    obtain ⟨x, y⟩ := h3.some
    rw [e] at y
    cases y
/-- a new list becomes a tree -/
theorem Rel.freeze (R : Rel mg F G ρ σ H) {a : Addr} {b : Bool} {ds : List D} (N : NewO mg F G ρ σ H a (.o b ds)) :
    ∃ xs, H a = some (.lst xs) ∧ Rel mg F (upd G a (.lst xs)) ρ σ H ∧ Same G (upd G a (.lst xs)) ∧ Rp mg (upd G a (.lst xs)) (.ref a) (.lst ds) := by
  obtain ⟨xs, e, r⟩ := N.own
  have sG : Same G (upd G a (.lst xs)) := fun c x q => by
    rw [upd_ne (fun z => by rw [z, N.g] at q; cases q)]; exact q
  refine ⟨xs, e, ⟨R.len, fun c x q => ?_, R.g0.trans sG, R.h0, fun c n z => ?_, fun i d q => ?_, fun i u q p => ?_, R.dist, R.ios, fun c z => ⟨(R.fix c z).1, (R.fix c z).2.grow (fun fs y => by rw [e] at y; cases y) sG⟩⟩, sG, .lst upd_same (r.mono sG)⟩
  · by_cases h : c = a
    · subst h; rw [upd_same] at q; cases q; exact e
    · rw [upd_ne h] at q; exact R.sub _ _ q
  · rw [upd_ne (fun y => n (by rw [y]; exact N.h0))]
    exact R.sep c n z
  · obtain ⟨v, h1, h2⟩ := R.pure i d q
    exact ⟨v, h1, h2.mono sG⟩
  · obtain ⟨c, h1, h2, h3, h4, h5⟩ := R.own i u q p
    have hne : c ≠ a := fun z => by subst z; exact N.slot i u q p h1
    exact ⟨c, h1, by rw [upd_ne hne]; exact h2, h3.ext sG Same.rfl, h4, h5⟩
theorem Own.upd {mg : Mg} {G H : Hp} {a b : Addr} {w : Dv} {o : HO} (h : Own mg G H b w) (hne : b ≠ a) : Own mg G (upd H a o) b w := by
  cases w with
  | p _ => exact h
  | x => exact h
  | o _ ds => obtain ⟨xs, q1, q2⟩ := h; exact ⟨xs, by rw [upd_ne hne]; exact q1, q2⟩
  | k _ ds => obtain ⟨xs, q1, q2⟩ := h; exact ⟨xs, by rw [upd_ne hne]; exact q1, q2⟩
/-- a new dict becomes a tree: locked -/
theorem Rel.freezeK (R : Rel mg F G ρ σ H) {a : Addr} {b : Bool} {kvs : List (Key × D)} (N : NewO mg F G ρ σ H a (.k b kvs)) :
    ∃ vs, H a = some (.dK vs) ∧ ∀ od, Rel mg F (upd G a (.frz od (.dK vs))) ρ σ (upd H a (.frz od (.dK vs))) ∧ Same G (upd G a (.frz od (.dK vs))) ∧ Rp mg (upd G a (.frz od (.dK vs))) (.ref a) (.dct kvs) := by
  obtain ⟨xs, e, r⟩ := N.own
  refine ⟨xs, e, fun od => ?_⟩
  have sG : Same G (upd G a (.frz od (.dK xs))) := fun c x q => by
    rw [upd_ne (fun z => by rw [z, N.g] at q; cases q)]; exact q
  refine ⟨⟨R.len, fun c x q => ?_, R.g0.trans sG, fun c o z n => ?_, fun c n z => ?_, fun i d q => ?_, fun i u q p => ?_, R.dist, R.ios, fun c z => ⟨(R.fix c z).1, ?_⟩⟩, sG, .dct upd_same (KvA.rk (r.mono sG))⟩
  · by_cases h : c = a
    · subst h; rw [upd_same] at q ⊢; exact q
    · rw [upd_ne h] at q ⊢; exact R.sub _ _ q
  · rw [upd_ne (fun y => by rw [y, N.h0] at z; cases z)]
    exact R.h0 c o z n
  · rw [upd_ne (fun y => n (by rw [y]; exact N.h0))]
    exact R.sep c n z
  · obtain ⟨v, h1, h2⟩ := R.pure i d q
    exact ⟨v, h1, h2.mono sG⟩
  · obtain ⟨c, h1, h2, h3, h4, h5⟩ := R.own i u q p
    have hne : c ≠ a := fun z => by subst z; exact N.slot i u q p h1
    exact ⟨c, h1, by rw [upd_ne hne]; exact h2, (h3.upd hne).ext sG Same.rfl, h4, h5⟩
  · refine ((R.fix c z).2.upd (fun fs y => by rw [e] at y; cases y)).grow (fun fs y => by rw [upd_same] at y; cases y) sG
theorem SeqV.of {v : V} {d : D} {ds : List D} {k : SK} (s : Same G H) (r : Rp mg G v d) (h : (match d with
    | .tup ds => some (SK.t, ds)
    | .lst ds => some (SK.l, ds)
    | .scr ns => some (SK.s, ns.map D.int)
    | _ => none) = some (k, ds)) : SeqV mg G H v k ds := by
  cases r with
  | tup e a => cases h; exact ⟨_, _, rfl, a, s _ _ e⟩
  | lst e a => cases h; exact ⟨_, _, rfl, a, s _ _ e⟩
  | scr e => cases h; exact ⟨_, _, rfl, RpA.ofInts _, _, s _ _ e⟩
  | _ => cases h
end
def seqF : D → Option (SK × List D)
  | .tup ds => some (.t, ds)
  | .lst ds => some (.l, ds)
  | .scr ns => some (.s, ns.map D.int)
  | _ => none
def seqM (m : M D) : M (SK × List D) := bindM m fun d => optM (seqF d)
def frzF : Dv → Option D
  | .p d => some d
  | .o _ ds => some (.lst ds)
  | .k _ kvs => some (.dct kvs)
  | .x => none
def frzM (m : M Dv) : M D := bindM m fun w => optM (frzF w)
def varM (i : Nat) : M D := fun ρ => match ρ[i]? with
  | some (some (.p d)) => .ok d ρ
  | _ => .no
def ownM (i : Nat) : M (SK × List D) := fun ρ => match ρ[i]? with
  | some (some (.o _ ds)) => .ok (.l, ds) ρ
  | _ => .no
section
variable {Φ : Fam}
theorem sq_of {e : Expr} {m : M D} (h : SE Φ e m) : SQ Φ e (seqM m) := by
  obtain ⟨t, p, h⟩ := h
  refine ⟨t, p, fun F G ρ σ H Q R s => h F G ρ σ H Q R (s.bind.imp (fun d ρ' q G' H' v R' sg r => ?_) fun _ _ z => z)⟩
  obtain ⟨⟨k, ds⟩, e1, q⟩ := q.opt
  exact q G' H' v R' sg (SeqV.of R'.sub r (by cases d <;> first | exact e1 | cases e1))
theorem sq_own {i : Nat} {x : Str} {pos : Pos} (hN : Φ.N[i]? = some x) (hv : Vis Φ.sc x) (hd : (x == ("__debug__" : Str)) = false := by decide) (hcd : (x == ("__classdict__" : Str)) = false := by decide) : SQ Φ (.Name x pos) (ownM i) := by
  refine ⟨_, fun j => pe_var (Φ.nx hN j) (Φ.vis hv j) hd hcd, fun F G ρ σ H Q R s => ?_⟩
  unfold ownM at s
  split at s
  · rename_i b ds e
    obtain ⟨a, h1, h2, ⟨xs, h3, h4⟩, _⟩ := R.own i _ e rfl
    exact ⟨_, h1, s G H _ R Same.rfl ⟨a, xs, rfl, h4, h3⟩⟩
  · exact s.elim
/-- .. and the value's object may be locked -/
def tFrz (t : TE) : TE := fun σ H Q => t σ H fun v H' => Q v H' ∨ ∃ a u, v = .ref a ∧ H' a = some u ∧ Mut (some u) ∧ ∀ od, Q v (upd H' a (.frz od u))
theorem pe_frz {X : Cx} {e : Expr} {t : TE} (h : PE X e t) : PE X e (tFrz t) := by
  refine ⟨fun pins s σ H Q I hw => thn (h.run pins s σ H _ I hw) fun u s1 ⟨x, H1, I1, r, q⟩ => ?_⟩
  rcases q with q | ⟨a, y, ex, ha, mu, q⟩
  · exact ⟨x, H1, I1, r, q⟩
  · obtain ⟨od, I2⟩ := I1.lock ha mu
    exact ⟨x, _, I2, r, q od⟩
theorem se_so {e : Expr} {m : M Dv} (h : SO Φ e m) : SE Φ e (frzM m) := by
  obtain ⟨t, p, h⟩ := h
  refine ⟨tFrz t, fun i => pe_frz (p i), fun F G ρ σ H Q R s => h F G ρ σ H _ R (s.bind.imp (fun w ρ' q G' H' a R' sg N => ?_) fun _ _ z => z)⟩
  obtain ⟨d, e1, q⟩ := q.opt
  cases w with
  | p d => exact absurd N.np (by intro z; cases z)
  | x => cases e1
  | o b ds =>
    cases e1
    obtain ⟨xs, e, R2, sg2, r⟩ := R'.freeze N
    exact .inl (q _ _ _ R2 (sg.trans sg2) r)
  | k b ds =>
    cases e1
    obtain ⟨vs, e, z⟩ := R'.freezeK N
    refine .inr ⟨a, _, rfl, e, trivial, fun od => ?_⟩
    obtain ⟨R2, sg2, r⟩ := z od
    exact q _ _ _ R2 (sg.trans sg2) r
/-! ### names, constants -/
theorem se_var {i : Nat} {x : Str} {pos : Pos} (hN : Φ.N[i]? = some x) (hv : Vis Φ.sc x) (hd : (x == ("__debug__" : Str)) = false := by decide) (hcd : (x == ("__classdict__" : Str)) = false := by decide) : SE Φ (.Name x pos) (varM i) := by
  refine ⟨_, fun j => pe_var (Φ.nx hN j) (Φ.vis hv j) hd hcd, fun F G ρ σ H Q R s => ?_⟩
  unfold varM at s
  split at s
  · rename_i d e
    obtain ⟨v, h1, h2⟩ := R.pure i d e
    exact ⟨v, h1, s G H v R Same.rfl h2⟩
  · exact s.elim
theorem se_int {i : Int} {j : Nat} {pos : Pos} : SE Φ (.Constant (.int i) j pos) (pureM (.int i)) := ⟨_, fun _ => pe_int, fun F G ρ σ H Q R s => s G H _ R Same.rfl (.int _)⟩
theorem se_bl {i : Bool} {j : Nat} {pos : Pos} : SE Φ (.Constant (.bool i) j pos) (pureM (.bl i)) := ⟨_, fun _ => pe_bl, fun F G ρ σ H Q R s => s G H _ R Same.rfl (.bl _)⟩
theorem se_non {j : Nat} {pos : Pos} : SE Φ (.Constant .none j pos) (pureM .non) := ⟨_, fun _ => pe_non, fun F G ρ σ H Q R s => s G H _ R Same.rfl .non⟩
theorem se_str {i : Str} {j : Nat} {pos : Pos} : SE Φ (.Constant (.str i) j pos) (pureM (.str i)) := ⟨_, fun _ => pe_str, fun F G ρ σ H Q R s => s G H _ R Same.rfl (.str _)⟩
theorem se_gint {x : Str} {pos : Pos} {i : Int} (hg : Φ.sc.names.lookup x = some .globalImplicit) (hm : ∃ t, Φ.mg x = some (.int i t)) (hd : (x == ("__debug__" : Str)) = false := by decide) : SE Φ (.Name x pos) (pureM (.int i)) := by
  obtain ⟨t, hm⟩ := hm
  exact ⟨_, fun j => pe_glob (v := .int i) (Φ.gl hg j) (Φ.mgn hm j) ⟨t, rfl⟩ hd, fun F G ρ σ H Q R s => s G H _ R Same.rfl (.int _)⟩
theorem se_gstr {x : Str} {pos : Pos} {i : Str} (hg : Φ.sc.names.lookup x = some .globalImplicit) (hm : ∃ t, Φ.mg x = some (.str i t)) (hd : (x == ("__debug__" : Str)) = false := by decide) : SE Φ (.Name x pos) (pureM (.str i)) := by
  obtain ⟨t, hm⟩ := hm
  exact ⟨_, fun j => pe_glob (v := .str i) (Φ.gl hg j) (Φ.mgn hm j) ⟨t, rfl⟩ hd, fun F G ρ σ H Q R s => s G H _ R Same.rfl (.str _)⟩
theorem se_gfn {x : Str} {pos : Pos} {a : Addr} (hg : Φ.sc.names.lookup x = some .globalImplicit) (hm : Φ.mg x = some (.ref a)) (hd : (x == ("__debug__" : Str)) = false := by decide) : SE Φ (.Name x pos) (pureM (.fn x)) :=
  ⟨_, fun j => pe_glob (v := .ref a) (Φ.gl hg j) (Φ.mgn hm j) rfl hd, fun F G ρ σ H Q R s => s G H _ R Same.rfl (.fn hm)⟩
/-! ### operators -/
def OpS (mg : Mg) (r : R2) (f : D → D → Option D) : Prop := ∀ (G H : Hp) (x y : V) (d e z : D) (Q : VK), Same G H → Rp mg G x d → Rp mg G y e → f d e = some z →
  (∀ G' H' w, Ext G H G' H' → Rp mg G' w z → Q w H') → r x y H Q
def op2M (f : D → D → Option D) (ma mb : M D) : M D := bindM ma fun x => bindM mb fun y => optM (f x y)
theorem he_op {r : R2} {f : D → D → Option D} {ta tb : TE} {ma mb : M D} {mg : Mg} {W : WX} (hs : OpS mg r f) (ha : HE mg W ta ma) (hb : HE mg W tb mb) : HE mg W (tOp r ta tb) (op2M f ma mb) := by
  intro F G ρ σ H Q R s
  refine ha F G ρ σ H _ R (s.bind.imp (fun d ρ1 q G1 H1 x R1 s1 r1 => ?_) fun _ _ z => z)
  refine hb F G1 ρ1 σ H1 _ R1 (q.bind.imp (fun e ρ2 q2 G2 H2 y R2 s2 r2 => ?_) fun _ _ z => z)
  obtain ⟨z, e1, q3⟩ := q2.opt
  exact hs G2 H2 x y d e z Q R2.sub (r1.mono s2) r2 e1 fun G' H' w x rw_ => q3 G' H' w (R2.ext x) (s1.trans (s2.trans x.hG)) rw_
def OpOk (Φ : Fam) (g : Value → Value → Sem Value) (f : D → D → Option D) : Prop := ∃ r, (∀ i, OpR (Φ.X i) g r) ∧ OpS Φ.mg r f
theorem se_op {op : Operator} {a b : Expr} {pos : Pos} {f : D → D → Option D} {ma mb : M D} (ho : OpOk Φ (binaryOp op) f) (ha : SE Φ a ma) (hb : SE Φ b mb) : SE Φ (.BinOp a op b pos) (op2M f ma mb) := by
  obtain ⟨r, ho⟩ := ho
  obtain ⟨ta, pa, ha⟩ := ha
  obtain ⟨tb, pb, hb⟩ := hb
  exact ⟨_, fun i => pe_op (ho.1 i) (pa i) (pb i), he_op ho.2 ha hb⟩
theorem se_cmp {op : CmpOp} {a b : Expr} {pos : Pos} {f : D → D → Option D} {ma mb : M D} (ho : OpOk Φ (compareOp op) f) (ha : SE Φ a ma) (hb : SE Φ b mb) (hm : behindInMarks op b = false := by first | exact nomark _ | rfl) : SE Φ (.Compare a [op] [b] pos) (op2M f ma mb) := by
  obtain ⟨r, ho⟩ := ho
  obtain ⟨ta, pa, ha⟩ := ha
  obtain ⟨tb, pb, hb⟩ := hb
  exact ⟨_, fun i => pe_cmpR (ho.1 i) (pa i) (pb i) hm, he_op ho.2 ha hb⟩
theorem OpS.or {mg : Mg} {r r' : R2} {f : D → D → Option D} (h : ∀ (G H : Hp) (x y : V) (d e z : D) (Q : VK), Same G H → Rp mg G x d → Rp mg G y e → f d e = some z → (∀ G' H' w, Ext G H G' H' → Rp mg G' w z → Q w H') → r x y H Q ∨ r' x y H Q) : OpS mg (fun x y H Q => r x y H Q ∨ r' x y H Q) f := h
end
def toB : D → Option Bool
  | .bl b => some b
  | _ => none
def boolM (m : M D) : M Bool := bindM m fun d => optM (toB d)
section
variable {Φ : Fam}
theorem st_val {e : Expr} {m : M D} (h : SE Φ e m) (he : ∀ env whole, PySem.isTrue e env whole = (do let v ← whole; standAt e.pos; holding [v] (truthy v)) := by intro _ _; rfl) : ST Φ e (boolM m) := by
  obtain ⟨t, p, h⟩ := h
  refine ⟨_, fun i => pt_val (p i) (he _), fun F G ρ σ H Q R s => ?_⟩
  refine h F G ρ σ H _ R (s.bind.imp (fun d ρ' q G' H' v R' sg r => ?_) fun _ _ z => z)
  obtain ⟨b, e1, q⟩ := q.opt
  cases r with
  | bl b' => cases e1; exact ⟨_, rfl, q G' H' R' sg⟩
  | _ => cases e1
theorem st_cmp {op : CmpOp} {a b : Expr} {pos : Pos} {f : D → D → Option D} {ma mb : M D} (ho : OpOk Φ (compareOp op) f) (ha : SE Φ a ma) (hb : SE Φ b mb) (hm : behindInMarks op b = false := by first | exact nomark _ | rfl) : ST Φ (.Compare a [op] [b] pos) (boolM (op2M f ma mb)) := by
  obtain ⟨r, ho⟩ := ho
  obtain ⟨ta, pa, ha⟩ := ha
  obtain ⟨tb, pb, hb⟩ := hb
  refine ⟨_, fun i => pt_cmpR (ho.1 i) (pa i) (pb i) hm, fun F G ρ σ H Q R s => ?_⟩
  refine he_op ho.2 ha hb F G ρ σ H _ R (s.bind.imp (fun d ρ' q G' H' v R' sg r => ?_) fun _ _ z => z)
  obtain ⟨b, e1, q⟩ := q.opt
  cases r with
  | bl b' => cases e1; exact ⟨_, rfl, q G' H' R' sg⟩
  | _ => cases e1
def andM (a b : M Bool) : M Bool := bindM a fun x => if x = true then b else pureM false
def orM (a b : M Bool) : M Bool := bindM a fun x => if x = true then pureM true else b
def notM (a : M Bool) : M Bool := bindM a fun x => pureM (!x)
theorem ht_and {W : WX} {mg : Mg} {t u : TT} {a b : M Bool} (ha : HT mg W t a) (hb : HT mg W u b) : HT mg W (tAnd t u) (andM a b) := by
  intro F G ρ σ H Q R s
  refine ha F G ρ σ H _ R (s.bind.imp (fun x ρ1 q G1 H1 R1 s1 => ?_) fun _ _ z => z)
  cases x with
  | true => simp only [if_true] at q ⊢; exact hb F G1 ρ1 σ H1 _ R1 (q.imp (fun y ρ2 z G2 H2 R2 s2 => z G2 H2 R2 (s1.trans s2)) fun _ _ z => z)
  | false => simp only [Bool.false_eq_true, if_false] at q ⊢; exact q G1 H1 R1 s1
theorem ht_or {W : WX} {mg : Mg} {t u : TT} {a b : M Bool} (ha : HT mg W t a) (hb : HT mg W u b) : HT mg W (tOr t u) (orM a b) := by
  intro F G ρ σ H Q R s
  refine ha F G ρ σ H _ R (s.bind.imp (fun x ρ1 q G1 H1 R1 s1 => ?_) fun _ _ z => z)
  cases x with
  | false => simp only [Bool.false_eq_true, if_false] at q ⊢; exact hb F G1 ρ1 σ H1 _ R1 (q.imp (fun y ρ2 z G2 H2 R2 s2 => z G2 H2 R2 (s1.trans s2)) fun _ _ z => z)
  | true => simp only [if_true] at q ⊢; exact q G1 H1 R1 s1
theorem st_sw {e : Expr} {m : M Bool} (h : SW Φ e m) : ST Φ e m := by
  obtain ⟨t, p, h⟩ := h
  exact ⟨t, fun i => PW.pt (p i), h⟩
theorem sw_and {a b : Expr} {rest : List Expr} {pos : Pos} {ma mb : M Bool} (ha : ST Φ a ma) (hb : SW Φ (.BoolOp .And (b :: rest) pos) mb) : SW Φ (.BoolOp .And (a :: b :: rest) pos) (andM ma mb) := by
  obtain ⟨t, p, ha⟩ := ha
  obtain ⟨u, q, hb⟩ := hb
  exact ⟨_, fun i => pw_and (p i) (q i), ht_and ha hb⟩
theorem sw_and1 {a : Expr} {pos : Pos} {ma : M Bool} (ha : ST Φ a ma) : SW Φ (.BoolOp .And [a] pos) ma := by
  obtain ⟨t, p, ha⟩ := ha
  exact ⟨_, fun i => pw_and1 (p i), ha⟩
theorem sw_or {a b : Expr} {rest : List Expr} {pos : Pos} {ma mb : M Bool} (ha : ST Φ a ma) (hb : SW Φ (.BoolOp .Or (b :: rest) pos) mb) : SW Φ (.BoolOp .Or (a :: b :: rest) pos) (orM ma mb) := by
  obtain ⟨t, p, ha⟩ := ha
  obtain ⟨u, q, hb⟩ := hb
  exact ⟨_, fun i => pw_or (p i) (q i), ht_or ha hb⟩
theorem sw_or1 {a : Expr} {pos : Pos} {ma : M Bool} (ha : ST Φ a ma) : SW Φ (.BoolOp .Or [a] pos) ma := by
  obtain ⟨t, p, ha⟩ := ha
  exact ⟨_, fun i => pw_or1 (p i), ha⟩
theorem st_not {a : Expr} {pos : Pos} {ma : M Bool} (ha : ST Φ a ma) : ST Φ (.UnaryOp .Not a pos) (notM ma) := by
  obtain ⟨t, p, ha⟩ := ha
  refine ⟨_, fun i => pt_not (p i), fun F G ρ σ H Q R s => ?_⟩
  exact ha F G ρ σ H _ R (s.bind.imp (fun x ρ1 q G1 H1 R1 s1 => q G1 H1 R1 s1) fun _ _ z => z)
/-! as values -/
def bM (m : M Bool) : M D := bindM m fun b => pureM (.bl b)
theorem se_and {a b : Expr} {rest : List Expr} {pos : Pos} {ma mb : M D} (ha : SE Φ a ma) (hb : SE Φ (.BoolOp .And (b :: rest) pos) mb) : SE Φ (.BoolOp .And (a :: b :: rest) pos) (bindM (boolM ma) fun x => if x = true then mb else pureM (.bl false)) := by
  obtain ⟨t, p, ha⟩ := ha
  obtain ⟨u, q, hb⟩ := hb
  refine ⟨_, fun i => pe_and (p i) (q i), fun F G ρ σ H Q R s => ?_⟩
  refine ha F G ρ σ H _ R (s.bind.bind.imp (fun d ρ1 q G1 H1 v R1 s1 r => ?_) fun _ _ z => z)
  obtain ⟨b, e1, q⟩ := q.opt
  cases r with
  | bl b' =>
    have e2 : b' = b := Option.some.inj e1
    subst e2
    refine ⟨_, rfl, ?_⟩
    cases b' with
    | true => simp only [if_true] at q ⊢; exact hb F G1 ρ1 σ H1 _ R1 (q.imp (fun y ρ2 z G2 H2 v R2 s2 r => z G2 H2 v R2 (s1.trans s2) r) fun _ _ z => z)
    | false => simp only [Bool.false_eq_true, if_false] at q ⊢; exact q G1 H1 _ R1 s1 (.bl _)
  | _ => cases e1
theorem se_or {a b : Expr} {rest : List Expr} {pos : Pos} {ma mb : M D} (ha : SE Φ a ma) (hb : SE Φ (.BoolOp .Or (b :: rest) pos) mb) : SE Φ (.BoolOp .Or (a :: b :: rest) pos) (bindM (boolM ma) fun x => if x = true then pureM (.bl true) else mb) := by
  obtain ⟨t, p, ha⟩ := ha
  obtain ⟨u, q, hb⟩ := hb
  refine ⟨_, fun i => pe_or (p i) (q i), fun F G ρ σ H Q R s => ?_⟩
  refine ha F G ρ σ H _ R (s.bind.bind.imp (fun d ρ1 q G1 H1 v R1 s1 r => ?_) fun _ _ z => z)
  obtain ⟨b, e1, q⟩ := q.opt
  cases r with
  | bl b' =>
    have e2 : b' = b := Option.some.inj e1
    subst e2
    refine ⟨_, rfl, ?_⟩
    cases b' with
    | false => simp only [Bool.false_eq_true, if_false] at q ⊢; exact hb F G1 ρ1 σ H1 _ R1 (q.imp (fun y ρ2 z G2 H2 v R2 s2 r => z G2 H2 v R2 (s1.trans s2) r) fun _ _ z => z)
    | true => simp only [if_true] at q ⊢; exact q G1 H1 _ R1 s1 (.bl _)
  | _ => cases e1
theorem se_one {a : Expr} {op : BoolOp} {pos : Pos} {ma : M D} (ha : SE Φ a ma) : SE Φ (.BoolOp op [a] pos) ma := by
  obtain ⟨t, p, ha⟩ := ha
  exact ⟨_, fun i => pe_one (p i), ha⟩
theorem se_not {a : Expr} {pos : Pos} {ma : M D} (ha : SE Φ a ma) : SE Φ (.UnaryOp .Not a pos) (bM (notM (boolM ma))) := by
  obtain ⟨t, p, ha⟩ := ha
  refine ⟨_, fun i => pe_not (p i), fun F G ρ σ H Q R s => ?_⟩
  refine ha F G ρ σ H _ R (s.bind.bind.bind.imp (fun d ρ1 q G1 H1 v R1 s1 r => ?_) fun _ _ z => z)
  obtain ⟨b, e1, q⟩ := q.opt
  cases r with
  | bl b' => cases e1; exact ⟨_, rfl, q G1 H1 _ R1 s1 (.bl _)⟩
  | _ => cases e1
def ifM {α : Type} (c : M Bool) (a b : M α) : M α := bindM c fun x => if x = true then a else b
theorem se_ifExp {c a b : Expr} {pos : Pos} {mc : M Bool} {ma mb : M D} (hc : ST Φ c mc) (ha : SE Φ a ma) (hb : SE Φ b mb) : SE Φ (.IfExp c a b pos) (ifM mc ma mb) := by
  obtain ⟨t, p, hc⟩ := hc
  obtain ⟨ta, pa, ha⟩ := ha
  obtain ⟨tb, pb, hb⟩ := hb
  refine ⟨_, fun i => pe_ifExp (p i) (pa i) (pb i), fun F G ρ σ H Q R s => ?_⟩
  refine hc F G ρ σ H _ R (s.bind.imp (fun x ρ1 q G1 H1 R1 s1 => ?_) fun _ _ z => z)
  cases x with
  | true => simp only [if_true] at q ⊢; exact ha F G1 ρ1 σ H1 _ R1 (q.imp (fun y ρ2 z G2 H2 v R2 s2 r => z G2 H2 v R2 (s1.trans s2) r) fun _ _ z => z)
  | false => simp only [Bool.false_eq_true, if_false] at q ⊢; exact hb F G1 ρ1 σ H1 _ R1 (q.imp (fun y ρ2 z G2 H2 v R2 s2 r => z G2 H2 v R2 (s1.trans s2) r) fun _ _ z => z)
/-! ### argument lists, displays -/
def consM (a : M D) (r : M (List D)) : M (List D) := bindM a fun x => bindM r fun xs => pureM (x :: xs)
theorem sa_nil : SA Φ [] (pureM []) := ⟨_, fun _ => pa_nil, fun F G ρ σ H Q R s => s G H [] R Same.rfl .nil⟩
theorem sa_cons {e : Expr} {es : List Expr} {m : M D} {ms : M (List D)} (h : SE Φ e m) (hs : SA Φ es ms) (hst : ∀ env, starEach (e :: es) env = (false, eval e env) :: starEach es env := by intro _; first | rfl | with_unfolding_all rfl) : SA Φ (e :: es) (consM m ms) := by
  obtain ⟨t, p, h⟩ := h
  obtain ⟨u, q, hs⟩ := hs
  refine ⟨_, fun i => pa_cons (p i) (q i) (hst _), fun F G ρ σ H Q R s => ?_⟩
  refine h F G ρ σ H _ R (s.bind.imp (fun d ρ1 q G1 H1 v R1 s1 r => ?_) fun _ _ z => z)
  refine hs F G1 ρ1 σ H1 _ R1 (q.bind.imp (fun ds ρ2 q G2 H2 vs R2 s2 r2 => ?_) fun _ _ z => z)
  exact q G2 H2 _ R2 (s1.trans s2) (.cons (r.mono s2) r2)
def szM {α : Type} (n : Nat) (m : M α) : M α := if n ≤ sizeLine then m else noM
def tupM (m : M (List D)) : M D := bindM m fun xs => szM xs.length (pureM (.tup xs))
def lstM (m : M (List D)) : M Dv := bindM m fun xs => szM xs.length (pureM (.o false xs))
theorem Sat.sz {α : Type} {n : Nat} {m : M α} {ρ : Env} {P : α → Env → Prop} {E : Exn → Env → Prop} (h : Sat (szM n m ρ) P E) : n ≤ sizeLine ∧ Sat (m ρ) P E := by
  unfold szM at h
  split at h
  · rename_i q; exact ⟨q, h⟩
  · exact h.elim
theorem se_tup {es : List Expr} {k : Nat} {pos : Pos} {m : M (List D)} (h : SA Φ es m) : SE Φ (.Tuple es k pos) (tupM m) := by
  obtain ⟨t, p, h⟩ := h
  refine ⟨_, fun i => pe_tup (p i), fun F G ρ σ H Q R s => ?_⟩
  refine h F G ρ σ H _ R (s.bind.imp (fun ds ρ1 q G1 H1 vs R1 s1 r => ?_) fun _ _ z => z)
  obtain ⟨hz, q⟩ := q.sz
  refine ⟨by rw [r.length]; exact hz, fun a na => ?_⟩
  have x := Ext.alloc R1.sub na (.tup vs)
  exact q _ _ _ (R1.ext x) (s1.trans x.hG) (.tup upd_same (r.mono x.hG))
theorem so_lst {es : List Expr} {pos : Pos} {m : M (List D)} (h : SA Φ es m) : SO Φ (.List es pos) (lstM m) := by
  obtain ⟨t, p, h⟩ := h
  refine ⟨_, fun i => pe_lst (p i), fun F G ρ σ H Q R s => ?_⟩
  refine h F G ρ σ H _ R (s.bind.imp (fun ds ρ1 q G1 H1 vs R1 s1 r => ?_) fun _ _ z => z)
  obtain ⟨hz, q⟩ := q.sz
  refine ⟨by rw [r.length]; exact hz, fun a na => ?_⟩
  obtain ⟨R2, N⟩ := R1.new na (w := .o false ds) (o := .lst vs) rfl rfl ⟨vs, upd_same, r⟩
  exact q _ _ _ R2 s1 N
end
end Fl
end

section
set_option Elab.async false
set_option linter.all false
set_option maxRecDepth 100000
set_option autoImplicit false
/-! Fl, part D: statements, loops, comprehensions. -/
namespace Fl
open PySem PySem.Spec PyProof.Rows L2

inductive Fw where
  | nx | ret (w : Dv) | bk | ct
def RetV (mg : Mg) (F : Fr) (G H : Hp) (v : V) : Dv → Prop
  | .p d => Rp mg G v d
  | w => ∃ a, v = .ref a ∧ w.io = false ∧ G a = none ∧ Own mg G H a w ∧ F.H0 a = none
def FPost (mg : Mg) (F : Fr) (G : Hp) (D : Ends) (fl : Fw) (ρ' : Env) : Prop := match fl with
  | .nx => ∀ G' σ' H', Rel mg F G' ρ' σ' H' → Same G G' → D.nx σ' H'
  | .bk => ∀ G' σ' H', Rel mg F G' ρ' σ' H' → Same G G' → D.bk σ' H'
  | .ct => ∀ G' σ' H', Rel mg F G' ρ' σ' H' → Same G G' → D.ct σ' H'
  | .ret w => ∀ G' σ' H' v, Rel mg F G' ρ' σ' H' → Same G G' → RetV mg F G' H' v w → D.rt v H'
def HS (mg : Mg) (W : WX) (t : TS) (m : M Fw) : Prop := ∀ (F : Fr) (G : Hp) (ρ : Env) (σ : L2.St) (H : Hp) (D : Ends), Rel mg F G ρ σ H →
  Sat (m ρ) (FPost mg F G D) (ExK mg W F) → t D σ H
def SS (Φ : Fam) (st : Stmt) (m : M Fw) : Prop := ∃ t, (∀ i, PS (Φ.X i) st t) ∧ HS Φ.mg Φ.W t m
def SSs (Φ : Fam) (st : List Stmt) (m : M Fw) : Prop := ∃ t, (∀ i, PSs (Φ.X i) st t) ∧ HS Φ.mg Φ.W t m
theorem FPost.mono {mg : Mg} {F : Fr} {G G1 : Hp} {D : Ends} {fl : Fw} {ρ' : Env} (s : Same G G1) (h : FPost mg F G D fl ρ') : FPost mg F G1 D fl ρ' := by
  cases fl with
  | nx => exact fun G' σ' H' R s1 => h G' σ' H' R (s.trans s1)
  | bk => exact fun G' σ' H' R s1 => h G' σ' H' R (s.trans s1)
  | ct => exact fun G' σ' H' R s1 => h G' σ' H' R (s.trans s1)
  | ret w => exact fun G' σ' H' v R s1 => h G' σ' H' v R (s.trans s1)

def seqS (a b : M Fw) : M Fw := bindM a fun fl => match fl with
  | .nx => b
  | f => pureM f
def exprM {α : Type} (m : M α) : M Fw := bindM m fun _ => pureM .nx
def retM (m : M D) : M Fw := bindM m fun d => pureM (.ret (.p d))
def retO (m : M Dv) : M Fw := bindM m fun w => pureM (.ret w)
def okSlot (ρ : Env) (i : Nat) : Bool := match ρ[i]? with
  | some (some w) => !w.io
  | some none => true
  | none => false
def putS (i : Nat) (w : Dv) : M Fw := fun ρ => if okSlot ρ i = true then .ok .nx (ρ.set i (some w)) else .no
def setM (i : Nat) (m : M D) : M Fw := bindM m fun d => putS i (.p d)
def setO (i : Nat) (m : M Dv) : M Fw := bindM m fun w => putS i w
theorem okSlot_io {ρ : Env} {i : Nat} (h : okSlot ρ i = true) (w : Dv) (e : ρ[i]? = some (some w)) : w.io = false := by
  unfold okSlot at h
  rw [e] at h
  simpa using h
section
variable {Φ : Fam}
theorem ss_nil : SSs Φ [] (pureM .nx) := ⟨_, fun _ => pss_nil, fun F G ρ σ H D R s => s G σ H R Same.rfl⟩
theorem hs_seq {W : WX} {mg : Mg} {t u : TS} {a b : M Fw} (ha : HS mg W t a) (hb : HS mg W u b) : HS mg W (tSeq t u) (seqS a b) := by
  intro F G ρ σ H D R s
  refine ha F G ρ σ H _ R (s.bind.imp (fun fl ρ1 q => ?_) fun _ _ z => z)
  cases fl with
  | nx => exact fun G1 σ1 H1 R1 s1 => hb F G1 ρ1 σ1 H1 D R1 (q.imp (fun fl ρ2 z => z.mono s1) fun _ _ z => z)
  | bk => exact q
  | ct => exact q
  | ret w => exact q
theorem ss_cons {st : Stmt} {rest : List Stmt} {a b : M Fw} (ha : SS Φ st a) (hb : SSs Φ rest b) : SSs Φ (st :: rest) (seqS a b) := by
  obtain ⟨t, p, ha⟩ := ha
  obtain ⟨u, q, hb⟩ := hb
  exact ⟨_, fun i => pss_cons (p i) (q i), hs_seq ha hb⟩
theorem ss_one {st : Stmt} {a : M Fw} (ha : SS Φ st a) : SSs Φ [st] a := by
  obtain ⟨t, p, ha⟩ := ha
  exact ⟨_, fun i => pss_one (p i), ha⟩
theorem ss_pass {pos : Pos} : SS Φ (.Pass pos) (pureM .nx) := ⟨_, fun _ => ps_pass, fun F G ρ σ H D R s => s G σ H R Same.rfl⟩
theorem ss_brk {pos : Pos} : SS Φ (.Break pos) (pureM .bk) := ⟨_, fun _ => ps_break, fun F G ρ σ H D R s => s G σ H R Same.rfl⟩
theorem ss_cont {pos : Pos} : SS Φ (.Continue pos) (pureM .ct) := ⟨_, fun _ => ps_continue, fun F G ρ σ H D R s => s G σ H R Same.rfl⟩
theorem ss_never {st : Stmt} : SS Φ st noM := ⟨_, fun _ => ps_never, fun F G ρ σ H D R s => s.elim⟩
theorem ss_ret {e : Expr} {pos : Pos} {m : M D} (h : SE Φ e m) : SS Φ (.Return (some e) pos) (retM m) := by
  obtain ⟨t, p, h⟩ := h
  refine ⟨_, fun i => ps_ret (p i), fun F G ρ σ H D R s => ?_⟩
  exact h F G ρ σ H _ R (s.bind.imp (fun d ρ1 q G1 H1 v R1 s1 r => q G1 σ H1 v R1 s1 r) fun _ _ z => z)
theorem ss_retO {e : Expr} {pos : Pos} {m : M Dv} (h : SO Φ e m) : SS Φ (.Return (some e) pos) (retO m) := by
  obtain ⟨t, p, h⟩ := h
  refine ⟨_, fun i => ps_ret (p i), fun F G ρ σ H D R s => ?_⟩
  refine h F G ρ σ H _ R (s.bind.imp (fun w ρ1 q G1 H1 a R1 s1 N => ?_) fun _ _ z => z)
  refine q G1 σ H1 _ R1 s1 ?_
  cases w with
  | p d => exact absurd N.np (by intro z; cases z)
  | x => exact absurd N.np (by intro z; cases z)
  | o b ds => exact ⟨a, rfl, N.nio, N.g, N.own, N.h0⟩
  | k b ds => exact ⟨a, rfl, N.nio, N.g, N.own, N.h0⟩
/-- return x, x an own object of the def's -/
def retV (i : Nat) : M Fw := fun ρ => match ρ[i]? with
  | some (some (.o false ds)) => .ok (.ret (.o false ds)) ρ
  | some (some (.k false ds)) => .ok (.ret (.k false ds)) ρ
  | _ => .no
theorem ss_retV {i : Nat} {x : Str} {pos pos' : Pos} (hN : Φ.N[i]? = some x) (hv : Vis Φ.sc x) (hd : (x == ("__debug__" : Str)) = false := by decide) (hcd : (x == ("__classdict__" : Str)) = false := by decide) : SS Φ (.Return (some (.Name x pos)) pos') (retV i) := by
  refine ⟨_, fun j => ps_ret (pe_var (Φ.nx hN j) (Φ.vis hv j) hd hcd), fun F G ρ σ H D R s => ?_⟩
  unfold retV at s
  split at s
  · rename_i ds e
    obtain ⟨a, h1, h2, h3, h4, h5⟩ := R.own i _ e rfl
    exact ⟨_, h1, s G σ H _ R Same.rfl ⟨a, rfl, rfl, h2, h3, h4 rfl⟩⟩
  · rename_i ds e
    obtain ⟨a, h1, h2, h3, h4, h5⟩ := R.own i _ e rfl
    exact ⟨_, h1, s G σ H _ R Same.rfl ⟨a, rfl, rfl, h2, h3, h4 rfl⟩⟩
  · exact s.elim
theorem ss_retN {pos : Pos} : SS Φ (.Return none pos) (pureM (.ret (.p .non))) := ⟨_, fun _ => ps_retN, fun F G ρ σ H D R s => s G σ H _ R Same.rfl .non⟩
theorem ss_expr {e : Expr} {pos : Pos} {m : M D} (h : SE Φ e m) (hsw : ∀ env, swapsWith e none pos.line env = pure false := by intro _; first | rfl | with_unfolding_all rfl) : SS Φ (.Expr e pos) (exprM m) := by
  obtain ⟨t, p, h⟩ := h
  refine ⟨_, fun i => ps_expr (p i) (hsw _), fun F G ρ σ H D R s => ?_⟩
  exact h F G ρ σ H _ R (s.bind.imp (fun d ρ1 q G1 H1 v R1 s1 r => q G1 σ H1 R1 s1) fun _ _ z => z)
theorem ss_if {c : Expr} {a b : List Stmt} {pos : Pos} {mc : M Bool} {ma mb : M Fw} (hc : ST Φ c mc) (ha : SSs Φ a ma) (hb : SSs Φ b mb) : SS Φ (.If c a b pos) (ifM mc ma mb) := by
  obtain ⟨t, p, hc⟩ := hc
  obtain ⟨ta, pa, ha⟩ := ha
  obtain ⟨tb, pb, hb⟩ := hb
  refine ⟨_, fun i => ps_if (p i) (pa i) (pb i), fun F G ρ σ H D R s => ?_⟩
  refine hc F G ρ σ H _ R (s.bind.imp (fun x ρ1 q G1 H1 R1 s1 => ?_) fun _ _ z => z)
  cases x with
  | true => simp only [if_true] at q ⊢; exact ha F G1 ρ1 σ H1 D R1 (q.imp (fun y ρ2 z => z.mono s1) fun _ _ z => z)
  | false => simp only [Bool.false_eq_true, if_false] at q ⊢; exact hb F G1 ρ1 σ H1 D R1 (q.imp (fun y ρ2 z => z.mono s1) fun _ _ z => z)
/-! ### x = e -/
theorem putP_ok {mg : Mg} {F : Fr} {G G1 : Hp} {ρ : Env} {σ : L2.St} {H : Hp} {Z : Ends} {i : Nat} {d : D} {v : V} {Ex : Exn → Env → Prop} (s : Sat (putS i (.p d) ρ) (FPost mg F G Z) Ex) (R : Rel mg F G1 ρ σ H) (sg : Same G G1) (r : Rp mg G1 v d) : Z.nx (σ.set i (some v)) H := by
  unfold putS at s
  split at s
  · rename_i hk
    exact s G1 _ _ (R.setP r (okSlot_io hk)) sg
  · exact s.elim
theorem ss_set {i : Nat} {x : Str} {e : Expr} {pos pos' : Pos} {m : M D} (hN : Φ.N[i]? = some x) (hl : Loc Φ.sc0 x) (h : SE Φ e m) (hsw : ∀ env, swapsWith e (some (.Name x pos')) pos.line env = pure false := by intro _; first | rfl | with_unfolding_all rfl) : SS Φ (.Assign [.Name x pos'] e pos) (setM i m) := by
  obtain ⟨t, p, h⟩ := h
  refine ⟨_, fun j => ps_set (Φ.ndi j) (Φ.nx hN j) (Φ.loc hl j) (p j) (hsw _) (Φ.fnl hl j), fun F G ρ σ H D R s => ?_⟩
  exact h F G ρ σ H _ R (s.bind.imp (fun d ρ1 q G1 H1 v R1 s1 r => putP_ok q R1 s1 r) fun _ _ z => z)
theorem putO_ok {mg : Mg} {F : Fr} {G G1 : Hp} {ρ : Env} {σ : L2.St} {H : Hp} {Z : Ends} {i : Nat} {w : Dv} {a : Addr} {Ex : Exn → Env → Prop} (s : Sat (putS i w ρ) (FPost mg F G Z) Ex) (R : Rel mg F G1 ρ σ H) (sg : Same G G1) (N : NewO mg F G1 ρ σ H a w) : Z.nx (σ.set i (some (.ref a))) H := by
  unfold putS at s
  split at s
  · rename_i hk
    exact s G1 _ _ (R.setO N.np N.nio N.g N.own N.h0 N.slot (okSlot_io hk)) sg
  · exact s.elim
theorem ss_setO {i : Nat} {x : Str} {e : Expr} {pos pos' : Pos} {m : M Dv} (hN : Φ.N[i]? = some x) (hl : Loc Φ.sc0 x) (h : SO Φ e m) (hsw : ∀ env, swapsWith e (some (.Name x pos')) pos.line env = pure false := by intro _; first | rfl | with_unfolding_all rfl) : SS Φ (.Assign [.Name x pos'] e pos) (setO i m) := by
  obtain ⟨t, p, h⟩ := h
  refine ⟨_, fun j => ps_set (Φ.ndi j) (Φ.nx hN j) (Φ.loc hl j) (p j) (hsw _) (Φ.fnl hl j), fun F G ρ σ H D R s => ?_⟩
  exact h F G ρ σ H _ R (s.bind.imp (fun d ρ1 q G1 H1 v R1 s1 r => putO_ok q R1 s1 r) fun _ _ z => z)
end
/-! ### targets -/
def Fram (ts : List Nat) (σ σ' : L2.St) : Prop := σ'.length = σ.length ∧ ∀ j, j ∉ ts → σ'[j]? = σ[j]?
def HG (mg : Mg) (g : TG) (f : D → Env → Option Env) (ts : List Nat) : Prop := ∀ (F : Fr) (G : Hp) (ρ ρ' : Env) (σ : L2.St) (H : Hp) (v : V) (d : D) (Q : L2.St → Hp → Prop), Rel mg F G ρ σ H → Rp mg G v d →
  f d ρ = some ρ' → (∀ σ', Rel mg F G ρ' σ' H → Fram ts σ σ' → Q σ' H) → g v σ H Q
def HGs (mg : Mg) (g : TGs) (f : List D → Env → Option Env) (ts : List Nat) : Prop := ∀ (F : Fr) (G : Hp) (ρ ρ' : Env) (σ : L2.St) (H : Hp) (v : List V) (d : List D) (Q : L2.St → Hp → Prop), Rel mg F G ρ σ H → RpA mg G v d →
  f d ρ = some ρ' → (∀ σ', Rel mg F G ρ' σ' H → Fram ts σ σ' → Q σ' H) → g v σ H Q
def SG (Φ : Fam) (e : Expr) (f : D → Env → Option Env) (ts : List Nat) : Prop := ∃ g, (∀ i, PG (Φ.X i) e g) ∧ HG Φ.mg g f ts
def SGs (Φ : Fam) (e : List Expr) (f : List D → Env → Option Env) (ts : List Nat) : Prop := ∃ g, (∀ i, PGs (Φ.X i) e g) ∧ HGs Φ.mg g f ts
def tgN (i : Nat) (d : D) (ρ : Env) : Option Env := if okSlot ρ i = true then some (ρ.set i (some (.p d))) else none
def tgT (f : List D → Env → Option Env) (n : Nat) (d : D) (ρ : Env) : Option Env := match d with
  | .tup ds => if ds.length = n then f ds ρ else none
  | _ => none
def tgNil (ds : List D) (ρ : Env) : Option Env := match ds with
  | [] => some ρ
  | _ :: _ => none
def tgCons (f : D → Env → Option Env) (g : List D → Env → Option Env) (ds : List D) (ρ : Env) : Option Env := match ds with
  | [] => none
  | d :: r => match f d ρ with
    | some ρ' => g r ρ'
    | none => none
section
variable {Φ : Fam}
theorem hg_name {mg : Mg} {i : Nat} : HG mg (gName i) (tgN i) [i] := by
  intro F G ρ ρ' σ H v d Q R r e s
  unfold tgN at e
  split at e
  · rename_i hk
    cases e
    exact s _ (R.setP r (okSlot_io hk)) ⟨List.length_set, fun j hj => List.getElem?_set_ne (fun e => hj (by simp [e]))⟩
  · cases e
theorem sg_name {i : Nat} {x : Str} {pos : Pos} (hN : Φ.N[i]? = some x) (hl : Loc Φ.sc0 x) : SG Φ (.Name x pos) (tgN i) [i] :=
  ⟨_, fun j => pg_name (Φ.ndi j) (Φ.nx hN j) (Φ.loc hl j) (Φ.fnl hl j), hg_name⟩
theorem sgs_nil : SGs Φ [] tgNil [] := ⟨_, fun _ => pgs_nil, fun F G ρ ρ' σ H v d Q R r e s => by
  cases r with
  | nil => cases e; exact ⟨rfl, s _ R ⟨rfl, fun _ _ => rfl⟩⟩
  | cons _ _ => cases e⟩
theorem sgs_cons {e : Expr} {es : List Expr} {f : D → Env → Option Env} {g : List D → Env → Option Env} {ts us : List Nat} (h : SG Φ e f ts) (hs : SGs Φ es g us)
    (ha : ∀ env, (assignEach (e :: es) env).map (fun x => x.2) = assign e env :: (assignEach es env).map (fun x => x.2) := by intro _; first | rfl | with_unfolding_all rfl) : SGs Φ (e :: es) (tgCons f g) (ts ++ us) := by
  obtain ⟨t, p, h⟩ := h
  obtain ⟨u, q, hs⟩ := hs
  refine ⟨_, fun i => pgs_cons (p i) (q i) (ha _), fun F G ρ ρ' σ H v d Q R r e s => ?_⟩
  cases r with
  | nil => cases e
  | cons r rs =>
    refine ⟨_, _, rfl, ?_⟩
    unfold tgCons at e
    simp only at e
    split at e
    · rename_i ρ1 e1
      exact h F G ρ ρ1 σ H _ _ _ R r e1 fun σ1 R1 f1 => hs F G ρ1 ρ' σ1 H _ _ Q R1 rs e fun σ2 R2 f2 => s σ2 R2 ⟨f2.1.trans f1.1, fun j hj => (f2.2 j fun z => hj (List.mem_append_right _ z)).trans (f1.2 j fun z => hj (List.mem_append_left _ z))⟩
    · cases e
theorem sg_tup {es : List Expr} {k : Nat} {pos : Pos} {n : Nat} {f : List D → Env → Option Env} {ts : List Nat} (h : SGs Φ es f ts) (h1 : ∀ env, (assignEach es env).length = n := by intro _; first | rfl | with_unfolding_all rfl)
    (h2 : ∀ env, (assignEach es env).findIdx? (fun x => x.1) = none := by intro _; first | rfl | with_unfolding_all rfl) (hc : Φ.cal = true := by rfl) : SG Φ (.Tuple es k pos) (tgT f n) ts := by
  obtain ⟨t, p, h⟩ := h
  refine ⟨gTup Φ.K n t, fun i => by rw [← Φ.hK i]; exact pg_tup (Φ.calm hc i) (p i) (h1 _) (h2 _), fun F G ρ ρ' σ H v d Q R r e s => ?_⟩
  cases r with
  | tup e1 ra =>
    unfold tgT at e
    simp only at e
    split at e
    · rename_i hl
      exact ⟨_, _, rfl, SqT.of (R.sub _ _ e1), by rw [ra.length]; exact hl, h F G ρ ρ' σ H _ _ Q R ra e s⟩
    · cases e
  | _ => cases e
/-- targets = e -/
def asgM (m : M D) (f : D → Env → Option Env) : M Fw := bindM m fun d ρ => match f d ρ with
  | some ρ' => .ok .nx ρ'
  | none => .no
theorem ss_asg {tg e : Expr} {pos : Pos} {m : M D} {f : D → Env → Option Env} {ts : List Nat} (h : SE Φ e m) (g : SG Φ tg f ts) (h1 : ∀ env, swapsWithSole [tg] e pos.line env = pure false := by intro _; first | rfl | with_unfolding_all rfl)
    (h2 : ∀ env, swappedStores [tg] e env = pure none := by intro _; first | rfl | with_unfolding_all rfl) (h3 : ∀ env, (assignEach [tg] env).map (fun x => x.2) = [assign tg env] := by intro _; first | rfl | with_unfolding_all rfl) : SS Φ (.Assign [tg] e pos) (asgM m f) := by
  obtain ⟨t, p, h⟩ := h
  obtain ⟨u, q, g⟩ := g
  refine ⟨_, fun i => ps_asg (p i) (q i) (h1 _) (h2 _) (h3 _), fun F G ρ σ H D R s => ?_⟩
  refine h F G ρ σ H _ R (s.bind.imp (fun d ρ1 q G1 H1 v R1 s1 r => ?_) fun _ _ z => z)
  cases hq : f d ρ1 with
  | some ρ2 =>
    simp only [hq] at q
    exact g F G1 ρ1 ρ2 σ H1 v d _ R1 r hq fun σ' R' _ => q G1 σ' H1 R' s1
  | none => simp only [hq] at q; exact q.elim
end
end Fl
end

section
set_option Elab.async false
set_option linter.all false
set_option maxRecDepth 100000
set_option autoImplicit false
/-! Fl, part F: loops over what stands still, comprehensions. -/
namespace Fl
open PySem PySem.Spec PyProof.Rows L2

structure IterOk (mg : Mg) (G1 : Hp) (J : It) (ds : List D) : Prop where
  go : ∀ i H, Same G1 H → i < ds.length → J.go i H
  stop : ∀ i H, Same G1 H → ds.length ≤ i → J.stop i H
  yld : ∀ i H x H' d, Same G1 H → J.yld i H x H' → ds[i]? = some d → ∀ G, Same G1 G → Same G H → ∃ G', Ext G H G' H' ∧ Rp mg G' x d
def HI (mg : Mg) (W : WX) (wi : TI) (mi : M (List D)) : Prop := ∀ (F : Fr) (G : Hp) (ρ : Env) (σ : L2.St) (H : Hp) (R : It → Hp → Prop), Rel mg F G ρ σ H →
  Sat (mi ρ) (fun ds ρ' => ∀ G' H' J, Rel mg F G' ρ' σ H' → Same G G' → IterOk mg G' J ds → R J H') (ExK mg W F) → wi σ H R
def SI (Φ : Fam) (tg iter : Expr) (mi : M (List D)) : Prop := ∃ wi, (∀ i, PI (Φ.X i) tg iter wi) ∧ HI Φ.mg Φ.W wi mi
def forL : List D → (D → Env → Option Env) → M Fw → M Fw
  | [], _, _ => pureM .nx
  | d :: r, f, b => fun ρ => match f d ρ with
    | none => .no
    | some ρ1 => match b ρ1 with
      | .ok .nx ρ2 => forL r f b ρ2
      | .ok .ct ρ2 => forL r f b ρ2
      | .ok .bk ρ2 => .ok .nx ρ2
      | .ok (.ret w) ρ2 => .ok (.ret w) ρ2
      | .ex c ρ2 => .ex c ρ2
      | .no => .no
def forM (mi : M (List D)) (f : D → Env → Option Env) (b : M Fw) : M Fw := bindM mi fun ds => forL ds f b
theorem drop_cons {α : Type} {ds : List α} {i : Nat} {d : α} (h : ds[i]? = some d) : ds.drop i = d :: ds.drop (i + 1) := by
  obtain ⟨hl, e⟩ := List.getElem?_eq_some_iff.mp h
  rw [List.drop_eq_getElem_cons hl, e]
section
variable {Φ : Fam}
theorem hs_for {W : WX} {mg : Mg} {wi : TI} {g : TG} {tb : TS} {mi : M (List D)} {f : D → Env → Option Env} {ts : List Nat} {b : M Fw} (hi : HI mg W wi mi) (hg : HG mg g f ts) (hb : HS mg W tb b) : HS mg W (tFor wi g tb) (forM mi f b) := by
  intro F G ρ σ H D R s
  refine hi F G ρ σ H _ R (s.bind.imp (fun ds ρ1 q G1 H1 J R1 s1 ok => ?_) fun _ _ z => z)
  refine ⟨fun i m σ' H' => m = ds.length - i ∧ i ≤ ds.length ∧ ∃ G' ρ', Rel mg F G' ρ' σ' H' ∧ Same G1 G' ∧ Sat (forL (ds.drop i) f b ρ') (FPost mg F G D) (ExK mg W F), ⟨ds.length, by simp, Nat.zero_le _, G1, ρ1, R1, Same.rfl, by simpa using q⟩, ?_⟩
  rintro i m σ' H' ⟨rfl, hi, G', ρ', R', s', q'⟩
  by_cases hlt : i < ds.length
  · have hd : ds[i]? = some ds[i] := List.getElem?_eq_getElem hlt
    rw [drop_cons hd] at q'
    refine .inr ⟨ok.go i H' (s'.trans R'.sub) hlt, fun σ2 H2 => ∃ G2 ρ2, Rel mg F G2 ρ2 σ2 H2 ∧ Same G1 G2 ∧ Sat (forL (ds.drop (i + 1)) f b ρ2) (FPost mg F G D) (ExK mg W F),
      fun σ2 H2 ⟨G2, ρ2, R2, s2, q2⟩ => ⟨ds.length - (i + 1), by omega, rfl, hlt, G2, ρ2, R2, s2, q2⟩, fun x H2 hy => ?_⟩
    obtain ⟨G2, xt, r2⟩ := ok.yld i H' x H2 _ (s'.trans R'.sub) hy hd G' s' R'.sub
    have R2 := R'.ext xt
    unfold forL at q'
    cases e1 : f ds[i] ρ' with
    | none => rw [e1] at q'; exact q'.elim
    | some ρ2 =>
      simp only [e1] at q'
      refine hg F G2 ρ' ρ2 σ' H2 x _ _ R2 r2 e1 fun σ3 R3 _ => ?_
      refine hb F G2 ρ2 σ3 H2 _ R3 ?_
      cases e2 : b ρ2 with
      | ok fl ρ3 =>
        simp only [e2] at q'
        cases fl with
        | nx => exact fun G4 σ4 H4 R4 s4 => ⟨G4, ρ3, R4, s'.trans (xt.hG.trans s4), q'⟩
        | ct => exact fun G4 σ4 H4 R4 s4 => ⟨G4, ρ3, R4, s'.trans (xt.hG.trans s4), q'⟩
        | bk => exact fun G4 σ4 H4 R4 s4 => q' G4 σ4 H4 R4 (s1.trans (s'.trans (xt.hG.trans s4)))
        | ret w => exact fun G4 σ4 H4 v R4 s4 => q' G4 σ4 H4 v R4 (s1.trans (s'.trans (xt.hG.trans s4)))
      | ex c ρ3 => simp only [e2] at q'; exact q'
      | no => simp only [e2] at q'; exact q'
  · have e : i = ds.length := by omega
    subst e
    rw [List.drop_length] at q'
    exact .inl ⟨ok.stop _ H' (s'.trans R'.sub) (Nat.le_refl _), q' G' σ' H' R' (s1.trans s')⟩
theorem ss_for {tg iter : Expr} {body : List Stmt} {pos : Pos} {mi : M (List D)} {f : D → Env → Option Env} {ts : List Nat} {b : M Fw} (hi : SI Φ tg iter mi) (hg : SG Φ tg f ts) (hb : SSs Φ body b)
    (hs : ∀ env x, foldedSetIterable iter env x = pure x := by intro _ _; first | rfl | with_unfolding_all rfl) (hc : Φ.cal = true := by rfl) : SS Φ (.For tg iter body [] pos) (forM mi f b) := by
  obtain ⟨wi, pi, hi⟩ := hi
  obtain ⟨g, pg, hg⟩ := hg
  obtain ⟨tb, pb, hb⟩ := hb
  exact ⟨_, fun i => ps_for (Φ.own i) (Φ.calm hc i) (pi i) (pg i) (pb i) (hs _), hs_for hi hg hb⟩
/-! ### what is walked -/
def itemsF : D → Option (List D)
  | .tup ds => some ds
  | .lst ds => some ds
  | .scr ns => some (ns.map D.int)
  | _ => none
def lstF : D → Option (List D)
  | .lst ds => some ds
  | .scr ns => some (ns.map D.int)
  | _ => none
def tupF : D → Option (List D)
  | .tup ds => some ds
  | _ => none
theorem iter_lst {mg : Mg} {K : PySem.W.Frag} {G : Hp} {a : Addr} {xs : List V} {ds : List D} (h : ∀ H, Same G H → SqL K H a xs) (r : RpA mg G xs ds) : IterOk mg G (Itl K a) ds where
  go := fun i H s hi => ⟨xs, xs[i]'(by rw [r.length]; exact hi), h H s, List.getElem?_eq_getElem _⟩
  stop := fun i H s hi => ⟨xs, h H s, by rw [r.length]; exact hi⟩
  yld := fun i H x H' d s hy hd G' sg sh => by
    obtain ⟨rfl, q⟩ := hy
    obtain ⟨v, e, rv⟩ := r.get hd
    rw [q xs (h _ s)] at e
    cases e
    exact ⟨G', Ext.refl sh, rv.mono sg⟩
theorem iter_tup {mg : Mg} {K : PySem.W.Frag} {G : Hp} {a : Addr} {xs : List V} {ds : List D} (h : ∀ H, Same G H → SqT K H a xs) (r : RpA mg G xs ds) : IterOk mg G (Itt K a) ds where
  go := fun i H s hi => ⟨xs, xs[i]'(by rw [r.length]; exact hi), h H s, List.getElem?_eq_getElem _⟩
  stop := fun i H s hi => ⟨xs, h H s, by rw [r.length]; exact hi⟩
  yld := fun i H x H' d s hy hd G' sg sh => by
    obtain ⟨rfl, q⟩ := hy
    obtain ⟨v, e, rv⟩ := r.get hd
    rw [q xs (h _ s)] at e
    cases e
    exact ⟨G', Ext.refl sh, rv.mono sg⟩
/-- over a list that stands still, or the script -/
theorem si_lst {tg e : Expr} {m : M D} (h : SE Φ e m) : SI Φ tg e (bindM m fun d => optM (lstF d)) := by
  obtain ⟨t, p, h⟩ := h
  refine ⟨iList Φ.K t, fun i => by rw [← Φ.hK i]; exact pi_list (p i), fun F G ρ σ H Q R s => ?_⟩
  refine h F G ρ σ H _ R (s.bind.imp (fun d ρ1 q G1 H1 v R1 s1 r => ?_) fun _ _ z => z)
  obtain ⟨ds, e1, q⟩ := q.opt
  cases r with
  | lst e2 ra => cases e1; exact ⟨_, rfl, ⟨_, SqL.of (R1.sub _ _ e2)⟩, q G1 H1 _ R1 s1 (iter_lst (fun H' s' => SqL.of (s' _ _ e2)) ra)⟩
  | scr e2 => cases e1; exact ⟨_, rfl, ⟨_, .inl (.inr ⟨_, R1.sub _ _ e2⟩)⟩, q G1 H1 _ R1 s1 (iter_lst (fun H' s' => .inl (.inr ⟨_, s' _ _ e2⟩)) (RpA.ofInts _))⟩
  | _ => cases e1
/-- over a tuple -/
theorem si_tup {tg e : Expr} {m : M D} (h : SE Φ e m) : SI Φ tg e (bindM m fun d => optM (tupF d)) := by
  obtain ⟨t, p, h⟩ := h
  refine ⟨iTup Φ.K t, fun i => by rw [← Φ.hK i]; exact pi_tup (p i), fun F G ρ σ H Q R s => ?_⟩
  refine h F G ρ σ H _ R (s.bind.imp (fun d ρ1 q G1 H1 v R1 s1 r => ?_) fun _ _ z => z)
  obtain ⟨ds, e1, q⟩ := q.opt
  cases r with
  | tup e2 ra => cases e1; exact ⟨_, rfl, ⟨_, SqT.of (R1.sub _ _ e2)⟩, q G1 H1 _ R1 s1 (iter_tup (fun H' s' => SqT.of (s' _ _ e2)) ra)⟩
  | _ => cases e1
def rngF (lo hi : Int) : List D := (List.range (hi - lo).toNat).map fun (k : Nat) => D.int (lo + (k : Int))
@[irreducible] def rng1F : D → Option (List D)
  | .int j => if -(2 ^ 62) ≤ j ∧ j < 2 ^ 62 then some (rngF 0 j) else none
  | _ => none
theorem rngF_len {lo hi : Int} : (rngF lo hi).length = (hi - lo).toNat := by unfold rngF; rw [List.length_map, List.length_range]
theorem iter_rng {mg : Mg} {G : Hp} {lo hi : Int} : IterOk mg G (Itr lo (hi - lo).toNat) (rngF lo hi) where
  go := fun i H s hi => by rw [rngF_len] at hi; exact hi
  stop := fun i H s hi => by rw [rngF_len] at hi; exact hi
  yld := fun i H x H' d s hy hd G' sg sh => by
    obtain ⟨rfl, rfl⟩ := hy
    unfold rngF at hd
    rw [List.getElem?_map] at hd
    obtain ⟨k, e1, e2⟩ := Option.map_eq_some_iff.mp hd
    have e3 : k = i := by
      rw [List.getElem?_eq_some_iff] at e1
      obtain ⟨h1, h2⟩ := e1
      rw [List.getElem_range] at h2
      exact h2.symm
    subst e3 e2
    exact ⟨G', Ext.refl sh, .int _⟩
theorem si_rng1 {tg a : Expr} {p pos : Pos} {m : M D} (hg : Φ.sc.names.lookup ("range" : Str) = some NameKind.globalImplicit) (hm : Φ.mg "range" = none) (h : SE Φ a m) (hst : ∀ env, starEach [a] env = (false, eval a env) :: starEach [] env := by intro _; first | rfl | with_unfolding_all rfl) : SI Φ tg (.Call (.Name "range" p) [a] [] pos) (bindM m fun d => optM (rng1F d)) := by
  obtain ⟨t, q, h⟩ := h
  refine ⟨_, fun i => pi_range1 (Φ.gl hg i) (Φ.mgn hm i) (pa_cons (q i) pa_nil (hst _)) (hst _), fun F G ρ σ H Q R s => ?_⟩
  refine h F G ρ σ H _ R (s.bind.imp (fun d ρ1 q G1 H1 v R1 s1 r => ?_) fun _ _ z => z)
  obtain ⟨ds, e1, q⟩ := q.opt
  cases r with
  | int j =>
    unfold rng1F at e1
    simp only at e1
    split at e1
    · rename_i hj
      cases e1
      refine ⟨j, rfl, hj.1, hj.2, ?_⟩
      have e : j.toNat = (j - 0).toNat := by rw [Int.sub_zero]
      rw [e]
      exact q G1 H1 _ R1 s1 iter_rng
    · cases e1
  | _ => (unfold rng1F at e1; cases e1)
def chF : D → Option (List D)
  | .str z => some (z.cps.toList.map fun c => D.str ⟨#[c]⟩)
  | _ => none
theorem si_str {tg e : Expr} {m : M D} (h : SE Φ e m) : SI Φ tg e (bindM m fun d => optM (chF d)) := by
  obtain ⟨t, p, h⟩ := h
  refine ⟨_, fun i => pi_str (p i), fun F G ρ σ H Q R s => ?_⟩
  refine h F G ρ σ H _ R (s.bind.imp (fun d ρ1 q G1 H1 v R1 s1 r => ?_) fun _ _ z => z)
  obtain ⟨ds, e1, q⟩ := q.opt
  cases r with
  | str z =>
    cases e1
    refine ⟨z, rfl, q G1 H1 _ R1 s1 ⟨fun i H s hi => ?_, fun i H s hi => ?_, fun i H x H' d s hy hd G' sg sh => ?_⟩⟩
    · show i < z.cps.size
      simpa using hi
    · show z.cps.size ≤ i
      simpa using hi
    · obtain ⟨rfl, c, e2, rfl⟩ := hy
      rw [List.getElem?_map] at hd
      obtain ⟨k, e3, e4⟩ := Option.map_eq_some_iff.mp hd
      have e5 : c = k := by
        rw [Array.getElem?_toList] at e3
        rw [e2] at e3
        exact Option.some.inj e3
      subst e5 e4
      exact ⟨G', Ext.refl sh, .str _⟩
  | _ => cases e1
end

/-! ### comprehensions -/
def Fr.pin (F : Fr) (a : Addr) (o : HO) : Fr := ⟨upd F.H0 a o, F.G0, F.ios⟩
section
variable {mg : Mg} {F : Fr} {G G' : Hp} {ρ : Env} {σ : L2.St} {H H' : Hp}
theorem Rel.iosNe (R : Rel mg F G ρ σ H) {a : Addr} {w : Dv} (N : NewO mg F G ρ σ H a w) (i : Nat) : (i, a) ∉ F.ios := fun h => by
  obtain ⟨e, w', h1, h2, _⟩ := R.ios i a h
  exact N.slot i w' h1 h2 e
theorem Rel.pin (R : Rel mg F G ρ σ H) {a : Addr} {w : Dv} {o : HO} (N : NewO mg F G ρ σ H a w) (e : H a = some o) : Rel mg (F.pin a o) G ρ σ H where
  len := R.len
  sub := R.sub
  g0 := R.g0
  h0 := fun b x q n => by
    by_cases h : b = a
    · subst h
      have q : upd F.H0 b o b = some x := q
      rw [upd_same] at q; cases q; exact e
    · have q : upd F.H0 a o b = some x := q
      rw [upd_ne h] at q
      exact R.h0 b x q n
  sep := fun b n z => by
    by_cases h : b = a
    · subst h; exact N.g
    · have n : upd F.H0 a o b ≠ none := n
      rw [upd_ne h] at n
      exact R.sep b n z
  pure := R.pure
  own := fun i u q p => by
    obtain ⟨b, h1, h2, h3, h4, h5⟩ := R.own i u q p
    refine ⟨b, h1, h2, h3, fun z => ?_, h5⟩
    show upd F.H0 a o b = none
    rw [upd_ne (fun y => by subst y; exact N.slot i u q p h1)]
    exact h4 z
  dist := R.dist
  ios := R.ios
  fix := R.fix
theorem Rel.unpin {a : Addr} {o : HO} (R : Rel mg (F.pin a o) G ρ σ H) (h0 : F.H0 a = none) (g0 : F.G0 a = none) (io : ∀ i, (i, a) ∉ F.ios) : Rel mg F G ρ σ H ∧ H a = some o ∧ G a = none ∧ ∀ (j : Nat) (u : Dv), ρ[j]? = some (some u) → u.isP = false → σ[j]? = some (some (.ref a)) → False := by
  have s : (F.pin a o).H0 a = some o := upd_same
  refine ⟨⟨R.len, R.sub, R.g0, fun b x q n => ?_, fun b n z => ?_, R.pure, fun i u q p => ?_, R.dist, R.ios, R.fix⟩, R.h0 a o s io, R.sep a (by rw [s]; simp) g0, fun j u q p e => ?_⟩
  · refine R.h0 b x ?_ n
    show upd F.H0 a o b = some x
    rw [upd_ne (fun y => by rw [y, h0] at q; cases q)]; exact q
  · refine R.sep b ?_ z
    show upd F.H0 a o b ≠ none
    by_cases h : b = a
    · subst h; rw [upd_same]; simp
    · rw [upd_ne h]; exact n
  · obtain ⟨b, h1, h2, h3, h4, h5⟩ := R.own i u q p
    refine ⟨b, h1, h2, h3, fun z => ?_, h5⟩
    have z : upd F.H0 a o b = none := h4 z
    by_cases h : b = a
    · subst h; rw [upd_same] at z; cases z
    · rw [upd_ne h] at z; exact z
  · obtain ⟨b, h1, h2, h3, h4, h5⟩ := R.own j u q p
    rw [e] at h1
    cases h1
    cases hi : u.io with
    | true => exact io j (h5 hi)
    | false =>
      have z := h4 hi
      rw [s] at z
      cases z
def wipeE (ρ : Env) : List Nat → Env
  | [] => ρ
  | v :: vs => (wipeE ρ vs).set v none
def keepP : Option Dv → Option Dv
  | some (.p d) => some (.p d)
  | _ => none
def restE (vs : List Nat) : Nat → Env → Env → Env
  | k, o :: ρ0, x :: ρ' => (if vs.contains k = true then keepP o else x) :: restE vs (k + 1) ρ0 ρ'
  | _, _, _ => []
theorem wipe_get {α : Type} (s : List (Option α)) (f : List (Option α) → List Nat → List (Option α)) (f0 : f s [] = s) (f1 : ∀ v vs, f s (v :: vs) = (f s vs).set v none) : ∀ (vs : List Nat) (j : Nat), (f s vs)[j]? = if j ∈ vs then (s[j]?).map fun _ => none else s[j]?
  | [], j => by rw [f0]; simp
  | v :: vs, j => by
    have ih := wipe_get s f f0 f1 vs
    have hl : ∀ vs, (f s vs).length = s.length := by
      intro vs
      induction vs with
      | nil => rw [f0]
      | cons w ws ih => rw [f1, List.length_set, ih]
    rw [f1]
    by_cases h : v = j
    · subst h
      rw [List.getElem?_set]
      simp only [if_true, List.mem_cons, true_or]
      rw [hl]
      split
      · rename_i q; rw [List.getElem?_eq_getElem q]; rfl
      · rename_i q; rw [List.getElem?_eq_none (by omega)]; rfl
    · rw [List.getElem?_set_ne h, ih]
      simp [Ne.symm h]
theorem wipeE_get (ρ : Env) (vs : List Nat) (j : Nat) : (wipeE ρ vs)[j]? = if j ∈ vs then (ρ[j]?).map fun _ => none else ρ[j]? := wipe_get ρ wipeE rfl (fun _ _ => rfl) vs j
theorem wipeS_get (σ : L2.St) (vs : List Nat) (j : Nat) : (wipe σ vs)[j]? = if j ∈ vs then (σ[j]?).map fun _ => none else σ[j]? := wipe_get σ wipe rfl (fun _ _ => rfl) vs j
theorem restE_get (vs : List Nat) : ∀ (k : Nat) (ρ0 ρ' : Env) (j : Nat), ρ0.length = ρ'.length → (restE vs k ρ0 ρ')[j]? = if k + j ∈ vs then (ρ0[j]?).map keepP else ρ'[j]?
  | k, [], [], j, _ => by simp [restE]
  | k, [], _ :: _, j, h => by cases h
  | k, _ :: _, [], j, h => by cases h
  | k, o :: ρ0, x :: ρ', j, h => by
    unfold restE
    cases j with
    | zero => by_cases q : k ∈ vs <;> simp [q]
    | succ j =>
      have ih := restE_get vs (k + 1) ρ0 ρ' j (by simpa using h)
      rw [List.getElem?_cons_succ, ih]
      have e : k + 1 + j = k + (j + 1) := by omega
      rw [e]
      rfl
theorem restE_len (vs : List Nat) : ∀ (k : Nat) (ρ0 ρ' : Env), ρ0.length = ρ'.length → (restE vs k ρ0 ρ').length = ρ'.length
  | k, [], [], _ => rfl
  | k, [], _ :: _, h => by cases h
  | k, _ :: _, [], h => by cases h
  | k, o :: ρ0, x :: ρ', h => by
    unfold restE
    rw [List.length_cons, List.length_cons, restE_len vs (k + 1) ρ0 ρ' (by simpa using h)]
theorem wipeE_length (ρ : Env) : ∀ vs : List Nat, (wipeE ρ vs).length = ρ.length
  | [] => rfl
  | v :: vs => by unfold wipeE; rw [List.length_set, wipeE_length ρ vs]
def noIo (ρ : Env) (vs : List Nat) : Bool := vs.all fun v => okSlot ρ v
theorem Rel.wipe (R : Rel mg F G ρ σ H) {vs : List Nat} (n : noIo ρ vs = true) : Rel mg F G (wipeE ρ vs) (L2.wipe σ vs) H where
  len := by rw [wipe_length, wipeE_length]; exact R.len
  sub := R.sub
  g0 := R.g0
  h0 := R.h0
  sep := R.sep
  pure := fun i d e => by
    rw [wipeE_get] at e
    rw [wipeS_get]
    split at e
    · cases q : ρ[i]? <;> rw [q] at e <;> cases e
    · rename_i h; rw [if_neg h]; exact R.pure i d e
  own := fun i w e p => by
    rw [wipeE_get] at e
    rw [wipeS_get]
    split at e
    · cases q : ρ[i]? <;> rw [q] at e <;> cases e
    · rename_i h; rw [if_neg h]; exact R.own i w e p
  dist := fun i j w u a hne e1 e2 p1 p2 s1 s2 => by
    rw [wipeE_get] at e1 e2
    rw [wipeS_get] at s1 s2
    split at e1
    · cases q : ρ[i]? <;> rw [q] at e1 <;> cases e1
    · rename_i h1
      split at e2
      · cases q : ρ[j]? <;> rw [q] at e2 <;> cases e2
      · rename_i h2
        rw [if_neg h1] at s1
        rw [if_neg h2] at s2
        exact R.dist i j w u a hne e1 e2 p1 p2 s1 s2
  ios := fun i a h => by
    obtain ⟨e, w, h1, h2, h3⟩ := R.ios i a h
    have hn : i ∉ vs := fun hv => by
      have z := List.all_eq_true.mp n i hv
      rw [okSlot_io z w h1] at h3
      cases h3
    rw [wipeE_get, wipeS_get, if_neg hn, if_neg hn]
    exact ⟨e, w, h1, h2, h3⟩
  fix := fun c h => by
    obtain ⟨⟨e, h1⟩, h2⟩ := R.fix c h
    have hn : c.slot ∉ vs := fun hv => by
      have z := List.all_eq_true.mp n _ hv
      have y := okSlot_io z _ h1
      cases y
    rw [wipeE_get, wipeS_get, if_neg hn, if_neg hn]
    exact ⟨⟨e, h1⟩, h2⟩
/-- back from the block -/
theorem Rel.rest {G0 H0 : Hp} {ρ0 ρ' : Env} {vs : List Nat} (R0 : Rel mg F G0 ρ0 σ H0) (R : Rel mg F G ρ' (L2.wipe σ vs) H) (s : Same G0 G) : Rel mg F G (restE vs 0 ρ0 ρ') σ H := by
  have hl : ρ0.length = ρ'.length := by rw [← R.len, wipe_length, R0.len]
  have gt : ∀ i w, (restE vs 0 ρ0 ρ')[i]? = some (some w) → (i ∈ vs ∧ ∃ d, w = .p d ∧ ρ0[i]? = some (some (.p d))) ∨ (i ∉ vs ∧ ρ'[i]? = some (some w) ∧ (L2.wipe σ vs)[i]? = σ[i]?) := fun i w e => by
    rw [restE_get vs 0 ρ0 ρ' i hl, Nat.zero_add] at e
    split at e
    · rename_i h
      left
      refine ⟨h, ?_⟩
      cases q : ρ0[i]? with
      | none => rw [q] at e; cases e
      | some x =>
        rw [q] at e
        cases x with
        | none => cases e
        | some y =>
          cases y with
          | p d => cases e; exact ⟨d, rfl, rfl⟩
          | x => cases e
          | o _ _ => cases e
          | k _ _ => cases e
    · rename_i h
      exact .inr ⟨h, e, by rw [wipeS_get, if_neg h]⟩
  refine ⟨by rw [restE_len vs 0 ρ0 ρ' hl, R0.len, hl], R.sub, R.g0, R.h0, R.sep, fun i d e => ?_, fun i w e p => ?_, fun i j w u a hne e1 e2 p1 p2 s1 s2 => ?_, fun i a h => ?_, fun c h => ?_⟩
  · rcases gt i _ e with ⟨_, d', e1, e2⟩ | ⟨_, e1, e2⟩
    · cases e1
      obtain ⟨v, h1, h2⟩ := R0.pure i d e2
      exact ⟨v, h1, h2.mono s⟩
    · obtain ⟨v, h1, h2⟩ := R.pure i d e1
      rw [e2] at h1
      exact ⟨v, h1, h2⟩
  · rcases gt i _ e with ⟨_, d', e1, e2⟩ | ⟨_, e1, e2⟩
    · subst e1; cases p
    · have z := R.own i w e1 p
      rw [e2] at z
      exact z
  · rcases gt i _ e1 with ⟨_, d', q1, q2⟩ | ⟨_, q1, q2⟩
    · subst q1; cases p1
    · rcases gt j _ e2 with ⟨_, d', q3, q4⟩ | ⟨_, q3, q4⟩
      · subst q3; cases p2
      · rw [← q2] at s1
        rw [← q4] at s2
        exact R.dist i j w u a hne q1 q3 p1 p2 s1 s2
  · obtain ⟨e, w, h1, h2, h3⟩ := R.ios i a h
    have hn : i ∉ vs := (wipe_some e).2
    rw [wipeS_get, if_neg hn] at e
    refine ⟨e, w, ?_, h2, h3⟩
    rw [restE_get vs 0 ρ0 ρ' i hl, Nat.zero_add, if_neg hn]
    exact h1
  · obtain ⟨⟨e, h1⟩, h2⟩ := R.fix c h
    have hn : c.slot ∉ vs := (wipe_some e).2
    rw [wipeS_get, if_neg hn] at e
    refine ⟨⟨e, ?_⟩, h2⟩
    rw [restE_get vs 0 ρ0 ρ' _ hl, Nat.zero_add, if_neg hn]
    exact h1
theorem wipe_frame {σ σ2 : L2.St} {vs ts : List Nat} (h : Fram ts (L2.wipe σ vs) σ2) (hs : ∀ t ∈ ts, t ∈ vs) : L2.wipe σ2 vs = L2.wipe σ vs := by
  apply List.ext_getElem?
  intro j
  rw [wipeS_get, wipeS_get]
  by_cases q : j ∈ vs
  · rw [if_pos q, if_pos q]
    by_cases l : j < σ.length
    · have l2 : j < σ2.length := by rw [h.1, wipe_length]; exact l
      rw [List.getElem?_eq_getElem l, List.getElem?_eq_getElem l2]; rfl
    · have l2 : ¬ j < σ2.length := by rw [h.1, wipe_length]; exact l
      rw [List.getElem?_eq_none (by omega), List.getElem?_eq_none (by omega)]
  · rw [if_neg q, if_neg q, h.2 j (fun z => q (hs j z)), wipeS_get, if_neg q]
end
def lcL (vs : List Nat) (f : D → Env → Option Env) (mt : M Bool) (me : M D) : List D → List D → M (List D)
  | [], acc => pureM acc
  | d :: r, acc => fun ρ => match f d ρ with
    | none => .no
    | some ρ1 => match mt ρ1 with
      | .ok true ρ2 => match me ρ2 with
        | .ok y ρ3 => if acc.length < sizeLine ∧ noIo ρ3 vs = true then lcL vs f mt me r (acc ++ [y]) (wipeE ρ3 vs) else .no
        | _ => .no
      | .ok false ρ2 => if noIo ρ2 vs = true then lcL vs f mt me r acc (wipeE ρ2 vs) else .no
      | _ => .no
def lcM (vs : List Nat) (mi : M (List D)) (f : D → Env → Option Env) (mt : M Bool) (me : M D) : M Dv := bindM mi fun ds ρ =>
  if noIo ρ vs = true then match lcL vs f mt me ds [] (wipeE ρ vs) with
    | .ok acc ρ' => .ok (.o false acc) (restE vs 0 ρ ρ')
    | _ => .no
  else .no
abbrev W0 : WX := fun _ _ _ _ => False
def STs (Φ : Fam) (ifs : List Expr) (m : M Bool) : Prop := ∃ t, (∀ i, PTs (Φ.X i) ifs t) ∧ HT Φ.mg Φ.W t m
theorem sts_nil {Φ : Fam} : STs Φ [] (pureM true) := ⟨_, fun _ => pts_nil, fun F G ρ σ H Q R s => s G H R Same.rfl⟩
theorem sts_one {Φ : Fam} {c : Expr} {m : M Bool} (h : ST Φ c m) : STs Φ [c] m := by
  obtain ⟨t, p, h⟩ := h
  exact ⟨t, fun i => pts_one (p i), h⟩
section
variable {Φ : Fam}
theorem ho_lc {W : WX} {mg : Mg} {wi : TI} {g : TG} {tt : TT} {te : TE} {mi : M (List D)} {f : D → Env → Option Env} {ts vs : List Nat} {mt : M Bool} {me : M D} (hi : HI mg W wi mi) (hg : HG mg g f ts) (ht : HT mg W0 tt mt) (he : HE mg W0 te me) (hs : ∀ t ∈ ts, t ∈ vs) :
    HO1 mg W (tLc wi g tt te vs) (lcM vs mi f mt me) := by
  intro F G ρ σ H Q R s
  refine hi F G ρ σ H _ R (s.bind.imp (fun ds ρ1 q G1 H1 J R1 s1 ok => ?_) fun _ _ z => z)
  intro A nA
  split at q
  rotate_left
  · exact q.elim
  rename_i hno
  obtain ⟨R2, N2⟩ := R1.new nA (w := .o false []) (o := .lst []) rfl rfl ⟨[], upd_same, .nil⟩
  have g0A : F.G0 A = none := by
    cases z : F.G0 A with
    | none => rfl
    | some o => rw [R1.sub _ _ (R1.g0 _ _ z)] at nA; cases nA
  have ioA := R2.iosNe N2
  -- what is left of the loop
  generalize hz : lcL vs f mt me ds [] (wipeE ρ1 vs) = z at q
  cases z with
  | ex c ρ' => exact q.elim
  | no => exact q.elim
  | ok out ρf =>
    have q : ∀ G' H' a, Rel mg F G' (restE vs 0 ρ1 ρf) σ H' → Same G G' → NewO mg F G' (restE vs 0 ρ1 ρf) σ H' a (.o false out) → Q (.ref a) H' := q
    refine ⟨fun i m H' => m = ds.length - i ∧ i ≤ ds.length ∧ ∃ G' ρ' acc xs, Rel mg F G' ρ' (wipe σ vs) H' ∧ Same G1 G' ∧ H' A = some (.lst xs) ∧ RpA mg G' xs acc ∧ NewO mg F G' ρ' (wipe σ vs) H' A (.o false acc) ∧ lcL vs f mt me (ds.drop i) acc ρ' = .ok out ρf,
      ⟨ds.length, by simp, Nat.zero_le _, G1, wipeE ρ1 vs, [], [], R2.wipe hno, Same.rfl, upd_same, .nil, ⟨rfl, rfl, N2.g, N2.own, N2.h0, fun j u e p x => ?_⟩, by simpa using hz⟩, ?_⟩
    · rw [wipeS_get] at x
      split at x
      · cases y : σ[j]? <;> rw [y] at x <;> cases x
      · rename_i hj
        rw [wipeE_get, if_neg hj] at e
        exact N2.slot j u e p x
    rintro i m H' ⟨rfl, hil, G', ρ', acc, xs, R', s', eA, rA, NA, el⟩
    by_cases hlt : i < ds.length
    · have hd : ds[i]? = some ds[i] := List.getElem?_eq_getElem hlt
      rw [drop_cons hd] at el
      refine .inr ⟨ok.go i H' (s'.trans R'.sub) hlt, fun H2 => ∃ G2 ρ2 acc xs, Rel mg F G2 ρ2 (wipe σ vs) H2 ∧ Same G1 G2 ∧ H2 A = some (.lst xs) ∧ RpA mg G2 xs acc ∧ NewO mg F G2 ρ2 (wipe σ vs) H2 A (.o false acc) ∧ lcL vs f mt me (ds.drop (i + 1)) acc ρ2 = .ok out ρf,
        fun H2 ⟨G2, ρ2, acc, xs, R2, s2, e2, r2, N2, q2⟩ => ⟨ds.length - (i + 1), by omega, rfl, hlt, G2, ρ2, acc, xs, R2, s2, e2, r2, N2, q2⟩, fun x H2 hy => ?_⟩
      obtain ⟨G2, xt, r2⟩ := ok.yld i H' x H2 _ (s'.trans R'.sub) hy hd G' s' R'.sub
      have Rp2 := (R'.pin NA eA).ext xt
      have eA2 : H2 A = some (.lst xs) := xt.hH _ _ eA
      unfold lcL at el
      cases e1 : f ds[i] ρ' with
      | none => simp only [e1] at el; cases el
      | some ρ2 =>
        simp only [e1] at el
        refine hg _ G2 ρ' ρ2 _ H2 x _ _ Rp2 r2 e1 fun σ2 R3 fr => ⟨wipe_frame fr hs, ?_⟩
        have wf := wipe_frame fr hs
        refine ht _ G2 ρ2 σ2 H2 _ R3 ?_
        cases e2 : mt ρ2 with
        | no => simp only [e2] at el; cases el
        | ex c ρ3 => simp only [e2] at el; cases el
        | ok bb ρ3 =>
          simp only [e2] at el
          intro G3 H3 R4 s4
          -- the turn's end
          have fin : ∀ {G5 H5 ρ5 acc5 xs5}, Rel mg (F.pin A (.lst xs)) G5 ρ5 σ2 H5 → Same G1 G5 → noIo ρ5 vs = true → RpA mg G5 xs5 acc5 → lcL vs f mt me (ds.drop (i + 1)) acc5 (wipeE ρ5 vs) = .ok out ρf →
              ∃ G2 ρ2 acc xs', Rel mg F G2 ρ2 (wipe σ vs) (upd H5 A (.lst xs5)) ∧ Same G1 G2 ∧ (upd H5 A (.lst xs5)) A = some (.lst xs') ∧ RpA mg G2 xs' acc ∧ NewO mg F G2 ρ2 (wipe σ vs) (upd H5 A (.lst xs5)) A (.o false acc) ∧ lcL vs f mt me (ds.drop (i + 1)) acc ρ2 = .ok out ρf := by
            intro G5 H5 ρ5 acc5 xs5 R5 s5 n5 r5 l5
            obtain ⟨R6, e6, g6, sl6⟩ := R5.unpin NA.h0 g0A ioA
            have R7 : Rel mg F G5 ρ5 σ2 (upd H5 A (.lst xs5)) := by
              refine ⟨R6.len, fun b y e => ?_, R6.g0, fun b y e n => ?_, R6.sep, R6.pure, fun j u e p => ?_, R6.dist, R6.ios, fun c z => ⟨(R6.fix c z).1, (R6.fix c z).2.upd (fun fs y => by rw [e6] at y; cases y)⟩⟩
              · rw [upd_ne (fun z => by rw [z, g6] at e; cases e)]; exact R6.sub _ _ e
              · rw [upd_ne (fun z => by rw [z, NA.h0] at e; cases e)]; exact R6.h0 _ _ e n
              · obtain ⟨b, h1, h2, h3, h4, h5⟩ := R6.own j u e p
                have hne : b ≠ A := fun z => by subst z; exact sl6 j u e p h1
                refine ⟨b, h1, h2, ?_, h4, h5⟩
                cases u with
                | p _ => exact h3
                | x => exact h3
                | o _ ds => obtain ⟨y, q1, q2⟩ := h3; exact ⟨y, by rw [upd_ne hne]; exact q1, q2⟩
                | k _ ds => obtain ⟨y, q1, q2⟩ := h3; exact ⟨y, by rw [upd_ne hne]; exact q1, q2⟩
            have R8 := R7.wipe n5
            rw [wf] at R8
            refine ⟨G5, wipeE ρ5 vs, acc5, xs5, R8, s5, upd_same, r5, ⟨rfl, rfl, g6, ⟨xs5, upd_same, r5⟩, NA.h0, fun j u e p y => ?_⟩, l5⟩
            rw [wipeE_get] at e
            split at e
            · cases k : ρ5[j]? <;> rw [k] at e <;> cases e
            · rename_i hj
              refine sl6 j u e p ?_
              have k : (wipe σ2 vs)[j]? = (wipe σ vs)[j]? := by rw [wf]
              rw [wipeS_get σ2, if_neg hj] at k
              rw [k]; exact y
          cases bb with
          | false =>
            simp only [Bool.false_eq_true, if_false] at el ⊢
            split at el
            · rename_i hn3
              have s5 : Same G1 G3 := s'.trans (xt.hG.trans s4)
              have z := fin R4 s5 hn3 (rA.mono (xt.hG.trans s4)) el
              obtain ⟨R6, e6, g6, sl6⟩ := R4.unpin NA.h0 g0A ioA
              have eq : upd H3 A (.lst xs) = H3 := by
                funext b
                by_cases h : b = A
                · subst h; rw [upd_same, e6]
                · rw [upd_ne h]
              rw [eq] at z
              exact z
            · cases el
          | true =>
            simp only [if_true] at el ⊢
            refine he _ G3 ρ3 σ2 H3 _ R4 ?_
            cases e3 : me ρ3 with
            | no => simp only [e3] at el; cases el
            | ex c ρ4 => simp only [e3] at el; cases el
            | ok y ρ4 =>
              simp only [e3] at el
              intro G5 H5 v R5 s5 rv
              split at el
              · rename_i hn
                obtain ⟨R6, e6, g6, sl6⟩ := R5.unpin NA.h0 g0A ioA
                refine ⟨xs, e6, by rw [rA.length]; exact hn.1, ?_⟩
                exact fin R5 (s'.trans (xt.hG.trans (s4.trans s5))) hn.2 ((rA.mono (xt.hG.trans (s4.trans s5))).append (.cons rv .nil)) el
              · cases el
    · have e : i = ds.length := by omega
      subst e
      rw [List.drop_length] at el
      unfold lcL at el
      cases el
      refine .inl ⟨ok.stop _ H' (s'.trans R'.sub) (Nat.le_refl _), ?_⟩
      have RR := R1.rest R' s'
      refine q G' H' A RR (s1.trans s') ⟨rfl, rfl, NA.g, NA.own, NA.h0, fun j u e p y => ?_⟩
      obtain ⟨b, h1, h2, h3, h4, h5⟩ := RR.own j u e p
      have hl : ρ1.length = ρf.length := by rw [← R1.len, ← wipe_length σ vs, R'.len]
      rw [restE_get vs 0 _ _ j hl, Nat.zero_add] at e
      split at e
      · cases k : ρ1[j]? with
        | none => rw [k] at e; cases e
        | some x =>
          rw [k] at e
          cases x with
          | none => cases e
          | some x =>
            cases x with
            | p d => cases e; cases p
            | x => cases e
            | o _ _ => cases e
            | k _ _ => cases e
      · rename_i hj
        exact NA.slot j u e p (by rw [wipeS_get, if_neg hj]; exact y)
theorem relS_lookup {scope sc : Scope} {x : Str} {k : NameKind} (hk : k ≠ .free) (h : scope.names.lookup x = some k) : (relS scope sc).names.lookup x = some k := by
  show (scope.names.map fun (n, k) => if (k == .free && sc.kind == .function && sc.names.lookup n == some .cell) then (n, NameKind.cell) else (n, k)).lookup x = some k
  revert h
  induction scope.names with
  | nil => intro h; cases h
  | cons y r ih =>
    obtain ⟨n, k'⟩ := y
    intro h
    simp only [List.map_cons]
    rw [List.lookup_cons] at h
    by_cases e : x == n
    · simp only [e] at h
      cases h
      have hf : (k == NameKind.free) = false := by cases k <;> first | rfl | exact absurd rfl hk
      simp only [hf, Bool.false_and, Bool.false_eq_true, if_false]
      rw [List.lookup_cons, e]
    · have e : (x == n) = false := by simpa using e
      simp only [e] at h
      have z := ih h
      split <;> (rw [List.lookup_cons, e]; exact z)
/-- the contexts of a comprehension's block -/
def Fam.blk (Φ : Fam) (scope : Scope) : Fam where
  ι := Φ.ι × Shared × Hp × Addr × List (Str × Addr) × List Addr
  X := fun q => (Φ.X q.1).blk q.2.1 q.2.2.1 scope (compEnvC scope q.2.2.2.2.1 q.2.2.2.1 (Φ.X q.1).env) q.2.2.2.2.2
  P := Φ.P
  w := Φ.w
  K := Φ.K
  mg := Φ.mg
  base := Φ.base
  N := Φ.N
  sc := relS scope Φ.sc
  sc0 := scope
  k := Φ.k
  W := W0
  hP := fun q => Φ.hP q.1
  hw := fun q => Φ.hw q.1
  hK := fun q => Φ.hK q.1
  hmg := fun q => Φ.hmg q.1
  hbase := fun q => Φ.hbase q.1
  hN := fun q => Φ.hN q.1
  hsc := fun q => by
    show relabel scope (Φ.X q.1).env = relS scope Φ.sc
    rw [← Φ.hsc q.1]; rfl
  nd := Φ.nd
  cal := Φ.cal
  calm := fun h q => Φ.calm h q.1
  dfn := false
  hdfn := fun h => nomatch h
  room := fun q => Φ.room q.1
  hdl := fun h q => Φ.hdl h q.1
  takes := fun q => takes0
  own := fun q => PassesOwn.never
  hfn := fun q x h => by
    show (scope.names.lookup x == some .cell) = true
    rw [h]; rfl
  hloc := fun x k hk h => relS_lookup hk h
theorem so_lc {elt tg iter : Expr} {ifs : List Expr} {scope : Scope} {own : List (Str × Nat)} {pos : Pos} {mi : M (List D)} {f : D → Env → Option Env} {ts : List Nat} {mt : M Bool} {me : M D} (hi : SI Φ tg iter mi) (ok : BlkOk Φ.N Φ.sc scope own)
    (hg : SG (Φ.blk scope) tg f ts) (ht : STs (Φ.blk scope) ifs mt) (he : SE (Φ.blk scope) elt me)
    (hts : (ts.all fun t => (own.map (·.2)).contains t) = true) (hs : ∀ env x, foldedSetIterable iter env x = pure x := by intro _ _; first | rfl | with_unfolding_all rfl) (hc : Φ.cal = true := by rfl) : SO Φ (.ListComp elt [⟨tg, iter, ifs, 0⟩] scope pos) (lcM (own.map (·.2)) mi f mt me) := by
  obtain ⟨wi, pi, hi⟩ := hi
  obtain ⟨g, pg, hg⟩ := hg
  obtain ⟨tt, pt, ht⟩ := ht
  obtain ⟨te, pe, he⟩ := he
  refine ⟨_, fun i => pe_lc (Φ.calm hc i) (Φ.ndi i) (pi i) (by rw [Φ.hN i, Φ.hsc i]; exact ok) (fun s H C cl fp => pg (i, s, H, C, cl, fp)) (fun s H C cl fp => pt (i, s, H, C, cl, fp)) (fun s H C cl fp => pe (i, s, H, C, cl, fp)) (hs _), ho_lc hi hg ht he fun t h => ?_⟩
  have z := List.all_eq_true.mp hts t h
  simpa using z
end
end Fl
end

section
set_option Elab.async false
set_option linter.all false
set_option maxRecDepth 100000
set_option autoImplicit false
/-! Fl, part E: a def's promise, calls. -/
namespace Fl
open PySem PySem.Spec PyProof.Rows L2

inductive R where
  | ok (w : Dv) (ws : List Dv)
  | ex (c : Exn)
  | no
def ArgR (mg : Mg) (G H : Hp) (v : V) : Dv → Prop
  | .p d => Rp mg G v d
  | w => ∃ a, v = .ref a ∧ w.io = true ∧ G a = none ∧ Own mg G H a w
structure Pre (mg : Mg) (G0 H : Hp) (vs : List V) (ws : List Dv) : Prop where
  sub : Same G0 H
  len : vs.length = ws.length
  arg : ∀ (i : Nat) (v : V) (w : Dv), vs[i]? = some v → ws[i]? = some w → ArgR mg G0 H v w
  dist : ∀ (i j : Nat) (u w : Dv) (a : Addr), i ≠ j → ws[i]? = some u → ws[j]? = some w → u.isP = false → w.isP = false → vs[i]? = some (.ref a) → vs[j]? = some (.ref a) → False
def IoA (vs : List V) (ws : List Dv) (i : Nat) (a : Addr) : Prop := ∃ w, ws[i]? = some w ∧ w.isP = false ∧ vs[i]? = some (.ref a)
structure Fin0 (mg : Mg) (G0 H : Hp) (vs : List V) (ws : List Dv) (G' H' : Hp) : Prop where
  g : Same G0 G'
  s : Same G' H'
  h : ∀ a o, H a = some o → (∀ i, ¬ IoA vs ws i a) → H' a = some o
  n : ∀ a, H a ≠ none → G0 a = none → G' a = none
structure Fin1 (mg : Mg) (G0 H : Hp) (vs : List V) (ws ws' : List Dv) (G' H' : Hp) : Prop extends Fin0 mg G0 H vs ws G' H' where
  len : ws'.length = ws.length
  o : ∀ (i : Nat) (a : Addr), IoA vs ws i a → ∃ w', ws'[i]? = some w' ∧ w'.isP = false ∧ w'.io = true ∧ Own mg G' H' a w'
def RetA (mg : Mg) (H G' H' : Hp) (v : V) : Dv → Prop
  | .p d => Rp mg G' v d
  | w => ∃ a, v = .ref a ∧ w.io = false ∧ G' a = none ∧ Own mg G' H' a w ∧ H a = none
def SpM (mg : Mg) (m : List Dv → R) : Sp := fun vs H Q E => ∃ G0 ws, Pre mg G0 H vs ws ∧ match m ws with
  | .ok w ws' => ∀ G' H' v, Fin1 mg G0 H vs ws ws' G' H' → RetA mg H G' H' v w → Q v H'
  | .ex c => ∀ G' H' cls od, Fin0 mg G0 H vs ws G' H' → ExR mg c cls od G' H' → E cls od H'
  | .no => False
def outs : List Dv → Env → List Dv
  | w :: ws, x :: ρ => (if w.isP = true then w else x.getD w) :: outs ws ρ
  | ws, [] => ws
  | [], _ => []
theorem outs_len : ∀ (ws : List Dv) (ρ : Env), (outs ws ρ).length = ws.length
  | [], [] => rfl
  | [], _ :: _ => rfl
  | _ :: _, [] => rfl
  | w :: ws, x :: ρ => by unfold outs; rw [List.length_cons, List.length_cons, outs_len ws ρ]
theorem outs_get : ∀ (ws : List Dv) (ρ : Env) (i : Nat) (w u : Dv), ws[i]? = some w → w.isP = false → ρ[i]? = some (some u) → (outs ws ρ)[i]? = some u
  | [], _, i, w, u, h, _, _ => by simp at h
  | _ :: _, [], i, w, u, _, _, h => by simp at h
  | w :: ws, x :: ρ, 0, w', u, h1, h2, h3 => by
    simp at h1 h3
    subst h1 h3
    unfold outs
    simp [h2]
  | w :: ws, x :: ρ, i + 1, w', u, h1, h2, h3 => by
    unfold outs
    rw [List.getElem?_cons_succ]
    exact outs_get ws ρ i w' u (by simpa using h1) h2 (by simpa using h3)
def startE (nN : Nat) (ws : List Dv) : Env := ws.map some ++ List.replicate (nN - ws.length) none
def fnM (np nN : Nat) (body : M Fw) (ws : List Dv) : R := if ws.length = np then match body (startE nN ws) with
    | .ok (.ret w) ρ => .ok w (outs ws ρ)
    | .ok .nx ρ => .ok (.p .non) (outs ws ρ)
    | .ex c _ => .ex c
    | _ => .no
  else .no

/-- the one context of a def's body -/
def defFam (P : Program) (w : World) (K : PySem.W.Frag) (mg : Mg) (base : Heap) (N : List Str) (q : Str) (sc : Scope) (f : Addr) (cdv : Value) (A : Around) (outer : List PySem.Env) (s : Shared) (H : Hp) (E : XK) (k : Nat) (nd : N.Nodup)
    (hr : Room k (A.deeper (envOfC q sc s.heap.objs.size f cdv))) : Fam where
  ι := Unit
  X := fun _ => cxOf (CX P w) P w K mg base N q sc f cdv A outer s H E
  P := P
  w := w
  K := K
  mg := mg
  base := base
  N := N
  sc := sc
  sc0 := sc
  k := k
  W := fun cls d _ H => E cls d H
  hP := fun _ => rfl
  hw := fun _ => rfl
  hK := fun _ => rfl
  hmg := fun _ => rfl
  hbase := fun _ => rfl
  hN := fun _ => rfl
  hsc := fun _ => rfl
  nd := nd
  cal := true
  calm := fun _ _ => rfl
  dfn := decide (sc.kind = .function)
  hdfn := fun h _ => ⟨rfl, rfl, of_decide_eq_true h, rfl⟩
  room := fun _ => ⟨hr.dp, hr.un⟩
  hdl := fun _ _ => hr.hd
  takes := fun _ => takes_of rfl rfl rfl rfl
  own := fun _ => passes_of rfl
  hfn := fun _ _ _ => rfl
  hloc := fun _ _ _ h => h

section
variable {P : Program} {w : World} {K : PySem.W.Frag} {mg : Mg} {base : Heap}
def iosOf (vs : List V) (ws : List Dv) : List (Nat × Addr) := (List.range vs.length).filterMap fun i => match ws[i]?, vs[i]? with
  | some (w : Dv), some (V.ref a) => if w.isP = true then none else some (i, a)
  | _, _ => none
theorem mem_ios {vs : List V} {ws : List Dv} {i : Nat} {a : Addr} : (i, a) ∈ iosOf vs ws ↔ IoA vs ws i a := by
  unfold iosOf
  rw [List.mem_filterMap]
  constructor
  · rintro ⟨j, _, e⟩
    split at e
    · rename_i w b h1 h2
      split at e
      · cases e
      · rename_i hp
        cases e
        exact ⟨w, h1, by simpa using hp, h2⟩
    · cases e
  · rintro ⟨w, h1, h2, h3⟩
    refine ⟨i, List.mem_range.mpr (List.getElem?_eq_some_iff.mp h3).1, ?_⟩
    rw [h1, h3]
    simp [h2]
theorem fn_ok {x q : Str} {params : Arguments} {body : List Stmt} {sc : Scope} {f : Addr} {fd : FuncData} {N ps : List Str} {k : Nat} {m : M Fw} (hex : mg.ex = none) (F : FunD K x q params body sc [] [] f fd) (S : FnScope N ps sc)
    (h : ∀ (cdv : Value) (A : Around) (outer : List PySem.Env) (s : Shared) (H : Hp) (E : XK) (hr : Room k (A.deeper (envOfC q sc s.heap.objs.size f cdv))), SSs (defFam P w K mg base N q sc f cdv A outer s H E k S.nd hr) body m) :
    FnOk P w K mg base (CX P w) (k + 1) f fd ps (SpM mg (fnM ps.length N.length m)) := by
  have hlen : ∀ vs H Q E, SpM mg (fnM ps.length N.length m) vs H Q E → vs.length = ps.length := fun vs H Q E h => by
    obtain ⟨G0, ws, pre, q⟩ := h
    unfold fnM at q
    split at q
    · rename_i e
      rw [pre.len]
      by_cases z : ws.length = ps.length
      · exact z
      · rw [if_neg z] at e; cases e
    · rename_i e
      rw [pre.len]
      by_cases z : ws.length = ps.length
      · exact z
      · rw [if_neg z] at e; cases e
    · exact q.elim
  refine F.ok S hlen (fun cdv A outer s H vs Q E hr sp => ?_)
  obtain ⟨t, p, hs⟩ := h cdv A outer s H E hr
  refine ⟨t, p (), ?_⟩
  have hl := hlen _ _ _ _ sp
  obtain ⟨G0, ws, pre, q⟩ := sp
  have hl2 : ws.length = ps.length := pre.len.symm.trans hl
  have hN : ps.length ≤ N.length := by
    have e := congrArg List.length S.pre
    rw [List.length_take] at e
    omega
  -- the start
  have gs : ∀ i, (startE N.length ws)[i]? = if i < ws.length then (ws[i]?).map some else if i < N.length then some none else none := fun i => by
    unfold startE
    by_cases h1 : i < ws.length
    · rw [List.getElem?_append_left (by simpa using h1), List.getElem?_map, if_pos h1]
    · rw [List.getElem?_append_right (by simpa using Nat.le_of_not_lt h1), List.getElem?_replicate, if_neg h1, List.length_map]
      by_cases h2 : i < N.length
      · rw [if_pos h2, if_pos (by omega)]
      · rw [if_neg h2, if_neg (by omega)]
  have gv : ∀ i, i < ws.length → (L2.start N vs)[i]? = (vs[i]?).map some := fun i h1 => by
    unfold L2.start
    rw [List.getElem?_append_left (by rw [List.length_map, pre.len]; exact h1), List.getElem?_map]
  have getw : ∀ i w, (startE N.length ws)[i]? = some (some w) → ws[i]? = some w ∧ i < ws.length := fun i w e => by
    rw [gs] at e
    split at e
    · rename_i h1
      cases z : ws[i]? with
      | none => rw [z] at e; cases e
      | some y => rw [z] at e; cases e; exact ⟨rfl, h1⟩
    · split at e <;> cases e
  have getv : ∀ i w, ws[i]? = some w → ∃ v, vs[i]? = some v := fun i w e => by
    have h1 := (List.getElem?_eq_some_iff.mp e).1
    rw [← pre.len] at h1
    exact ⟨_, List.getElem?_eq_getElem h1⟩
  have R0 : Rel mg ⟨H, G0, iosOf vs ws⟩ G0 (startE N.length ws) (L2.start N vs) H := by
    refine ⟨?_, pre.sub, Same.rfl, fun a o e _ => e, fun a _ e => e, fun i d e => ?_, fun i u e hp => ?_, fun i j u1 u2 a hne e1 e2 p1 p2 s1 s2 => ?_, fun i a hm => ?_, fun _ h => by rw [hex] at h; cases h⟩
    · unfold L2.start startE
      rw [List.length_append, List.length_append, List.length_map, List.length_map, List.length_replicate, List.length_replicate, pre.len]
    · obtain ⟨h1, h2⟩ := getw i _ e
      obtain ⟨v, hv⟩ := getv i _ h1
      exact ⟨v, by rw [gv i h2, hv]; rfl, pre.arg i v _ hv h1⟩
    · obtain ⟨h1, h2⟩ := getw i _ e
      obtain ⟨v, hv⟩ := getv i _ h1
      have ar := pre.arg i v u hv h1
      have ar : ∃ a, v = .ref a ∧ u.io = true ∧ G0 a = none ∧ Own mg G0 H a u := by
        cases u with
        | p _ => cases hp
        | x => cases hp
        | o _ _ => exact ar
        | k _ _ => exact ar
      obtain ⟨a, rfl, hio, hg, ho⟩ := ar
      exact ⟨a, by rw [gv i h2, hv]; rfl, hg, ho, (fun z => by rw [hio] at z; cases z), fun _ => mem_ios.mpr ⟨u, h1, hp, hv⟩⟩
    · obtain ⟨q1, q2⟩ := getw i _ e1
      obtain ⟨q3, q4⟩ := getw j _ e2
      rw [gv i q2] at s1
      rw [gv j q4] at s2
      obtain ⟨v1, hv1⟩ := getv i _ q1
      obtain ⟨v2, hv2⟩ := getv j _ q3
      rw [hv1] at s1
      rw [hv2] at s2
      cases s1
      cases s2
      exact pre.dist i j u1 u2 a hne q1 q3 p1 p2 hv1 hv2
    · obtain ⟨u, h1, h2, h3⟩ := mem_ios.mp hm
      have hi := (List.getElem?_eq_some_iff.mp h1).1
      have ar := pre.arg i _ u h3 h1
      refine ⟨by rw [gv i hi, h3]; rfl, u, by rw [gs, if_pos hi, h1]; rfl, h2, ?_⟩
      cases u with
      | p _ => cases h2
      | x => cases h2
      | o _ _ => obtain ⟨_, _, z, _⟩ := ar; exact z
      | k _ _ => obtain ⟨_, _, z, _⟩ := ar; exact z
  have fin0 : ∀ {G' ρ' σ' H'}, Rel mg ⟨H, G0, iosOf vs ws⟩ G' ρ' σ' H' → Fin0 mg G0 H vs ws G' H' := fun R' =>
    ⟨R'.g0, R'.sub, fun a o e n => R'.h0 a o e fun i hi => n i (mem_ios.mp hi), R'.sep⟩
  have fin1 : ∀ {G' ρ' σ' H'}, Rel mg ⟨H, G0, iosOf vs ws⟩ G' ρ' σ' H' → Fin1 mg G0 H vs ws (outs ws ρ') G' H' := fun {G' ρ' σ' H'} R' =>
    ⟨fin0 R', outs_len _ _, fun i a ia => by
      obtain ⟨e, u, h1, h2, h3⟩ := R'.ios i a (mem_ios.mpr ia)
      obtain ⟨w0, h4, h5, h6⟩ := ia
      obtain ⟨b, h7, h8, h9, _⟩ := R'.own i u h1 h2
      rw [e] at h7
      cases h7
      exact ⟨u, outs_get ws ρ' i w0 u h4 h5 h1, h2, h3, h9⟩⟩
  refine hs ⟨H, G0, iosOf vs ws⟩ G0 (startE N.length ws) (L2.start N vs) H _ R0 ?_
  unfold fnM at q
  rw [if_pos hl2] at q
  cases hm : m (startE N.length ws) with
  | no => rw [hm] at q; exact q.elim
  | ex c ρ' => rw [hm] at q; exact fun G' σ' H' cls od R' ex => q G' H' cls od (fin0 R') ex
  | ok fl ρ' =>
    cases fl with
    | nx => rw [hm] at q; exact fun G' σ' H' R' _ => q G' H' _ (fin1 R') .non
    | bk => rw [hm] at q; exact q.elim
    | ct => rw [hm] at q; exact q.elim
    | ret u =>
      rw [hm] at q
      refine fun G' σ' H' v R' _ rv => q G' H' v (fin1 R') ?_
      cases u with
      | p d => exact rv
      | x => exact rv
      | o _ _ => exact rv
      | k _ _ => exact rv
/-- a def by its name -/
def Fn (P : Program) (w : World) (K : PySem.W.Frag) (mg : Mg) (base : Heap) (k : Nat) (x : Str) (m : List Dv → R) : Prop :=
  ∃ (f : Addr) (fd : FuncData) (ps : List Str), mg x = some (.ref f) ∧ PySem.W.keepIn K (.ref f) = true ∧ Binds K fd ps [] ∧ FnOk P w K mg base (CX P w) k f fd ps (SpM mg m)
theorem Fn.mono {j k : Nat} {x : Str} {m : List Dv → R} (F : Fn P w K mg base j x m) (h : j ≤ k) : Fn P w K mg base k x m := by
  obtain ⟨f, fd, ps, h1, h2, h3, h4⟩ := F
  exact ⟨f, fd, ps, h1, h2, h3, h4.mono h⟩
end
end Fl
end

section
set_option Elab.async false
set_option linter.all false
set_option maxRecDepth 100000
set_option autoImplicit false
/-! Fl, part G: calls of the program's own defs. -/
namespace Fl
open PySem PySem.Spec PyProof.Rows L2

/-- what is handed on: a tree; the own object of a slot; the list of a slot, lent -/
inductive Arg where
  | v (d : D)
  | r (j : Nat)
  | b (j : Nat)
inductive ArgsV (mg : Mg) (G : Hp) (σ : L2.St) : List V → List Arg → Prop
  | nil : ArgsV mg G σ [] []
  | v {x : V} {d : D} {vs : List V} {as : List Arg} : Rp mg G x d → ArgsV mg G σ vs as → ArgsV mg G σ (x :: vs) (.v d :: as)
  | r {x : V} {j : Nat} {vs : List V} {as : List Arg} : σ[j]? = some (some x) → ArgsV mg G σ vs as → ArgsV mg G σ (x :: vs) (.r j :: as)
  | b {x : V} {j : Nat} {vs : List V} {as : List Arg} : σ[j]? = some (some x) → ArgsV mg G σ vs as → ArgsV mg G σ (x :: vs) (.b j :: as)
def HR (mg : Mg) (W : WX) (t : TA) (m : M (List Arg)) : Prop := ∀ (F : Fr) (G : Hp) (ρ : Env) (σ : L2.St) (H : Hp) (Q : List V → Hp → Prop), Rel mg F G ρ σ H →
  Sat (m ρ) (fun as ρ' => ∀ G' H' vs, Rel mg F G' ρ' σ H' → Same G G' → ArgsV mg G' σ vs as → Q vs H') (ExK mg W F) → t σ H Q
def SR (Φ : Fam) (es : List Expr) (m : M (List Arg)) : Prop := ∃ t, (∀ i, PA (Φ.X i) es t) ∧ HR Φ.mg Φ.W t m
theorem ArgsV.mono {mg : Mg} {G G' : Hp} (s : Same G G') {σ : L2.St} : ∀ {vs : List V} {as : List Arg}, ArgsV mg G σ vs as → ArgsV mg G' σ vs as
  | _, _, .nil => .nil
  | _, _, .v e t => .v (e.mono s) (ArgsV.mono s t)
  | _, _, .r e t => .r e (ArgsV.mono s t)
  | _, _, .b e t => .b e (ArgsV.mono s t)
def consR (a : M Arg) (r : M (List Arg)) : M (List Arg) := bindM a fun x => bindM r fun xs => pureM (x :: xs)
def argV (m : M D) : M Arg := bindM m fun d => pureM (.v d)
def argR (j : Nat) : M Arg := fun ρ => match ρ[j]? with
  | some (some w) => if w.isP = true then .no else .ok (.r j) ρ
  | _ => .no
def argB (j : Nat) : M Arg := fun ρ => match ρ[j]? with
  | some (some w) => if w.isP = true then .no else .ok (.b j) ρ
  | _ => .no
section
variable {Φ : Fam}
theorem sr_nil : SR Φ [] (pureM []) := ⟨_, fun _ => pa_nil, fun F G ρ σ H Q R s => s G H [] R Same.rfl .nil⟩
theorem sr_v {e : Expr} {es : List Expr} {m : M D} {ms : M (List Arg)} (h : SE Φ e m) (hs : SR Φ es ms) (hst : ∀ env, starEach (e :: es) env = (false, eval e env) :: starEach es env := by intro _; first | rfl | with_unfolding_all rfl) : SR Φ (e :: es) (consR (argV m) ms) := by
  obtain ⟨t, p, h⟩ := h
  obtain ⟨u, q, hs⟩ := hs
  refine ⟨_, fun i => pa_cons (p i) (q i) (hst _), fun F G ρ σ H Q R s => ?_⟩
  refine h F G ρ σ H _ R (s.bind.bind.imp (fun d ρ1 q G1 H1 v R1 s1 r => ?_) fun _ _ z => z)
  refine hs F G1 ρ1 σ H1 _ R1 (q.bind.imp (fun ds ρ2 q G2 H2 vs R2 s2 r2 => ?_) fun _ _ z => z)
  exact q G2 H2 _ R2 (s1.trans s2) (.v (r.mono s2) r2)
theorem sr_r {j : Nat} {x : Str} {pos : Pos} {es : List Expr} {ms : M (List Arg)} (hN : Φ.N[j]? = some x) (hv : Vis Φ.sc x) (hs : SR Φ es ms) (hd : (x == ("__debug__" : Str)) = false := by decide) (hcd : (x == ("__classdict__" : Str)) = false := by decide)
    (hst : ∀ env, starEach (.Name x pos :: es) env = (false, eval (.Name x pos) env) :: starEach es env := by intro _; first | rfl | with_unfolding_all rfl) : SR Φ (.Name x pos :: es) (consR (argR j) ms) := by
  obtain ⟨u, q, hs⟩ := hs
  refine ⟨_, fun i => pa_cons (pe_var (Φ.nx hN i) (Φ.vis hv i) hd hcd) (q i) (hst _), fun F G ρ σ H Q R s => ?_⟩
  have s := s.bind
  unfold argR at s
  cases e : ρ[j]? with
  | none => rw [e] at s; exact s.elim
  | some y =>
    cases y with
    | none => rw [e] at s; exact s.elim
    | some w =>
      rw [e] at s
      by_cases hp : w.isP = true
      · simp only [hp, if_true] at s; exact s.elim
      · simp only [hp] at s
        obtain ⟨a, h1, h2, h3, _⟩ := R.own j w e (by simpa using hp)
        refine ⟨_, h1, ?_⟩
        refine hs F G ρ σ H _ R (Sat.imp (Sat.bind s) (fun ds ρ2 q G2 H2 vs R2 s2 r2 => ?_) fun _ _ z => z)
        exact q G2 H2 _ R2 s2 (.r h1 r2)
theorem sr_b {j : Nat} {x : Str} {pos : Pos} {es : List Expr} {ms : M (List Arg)} (hN : Φ.N[j]? = some x) (hv : Vis Φ.sc x) (hs : SR Φ es ms) (hd : (x == ("__debug__" : Str)) = false := by decide) (hcd : (x == ("__classdict__" : Str)) = false := by decide)
    (hst : ∀ env, starEach (.Name x pos :: es) env = (false, eval (.Name x pos) env) :: starEach es env := by intro _; first | rfl | with_unfolding_all rfl) : SR Φ (.Name x pos :: es) (consR (argB j) ms) := by
  obtain ⟨u, q, hs⟩ := hs
  refine ⟨_, fun i => pa_cons (pe_var (Φ.nx hN i) (Φ.vis hv i) hd hcd) (q i) (hst _), fun F G ρ σ H Q R s => ?_⟩
  have s := s.bind
  unfold argB at s
  cases e : ρ[j]? with
  | none => rw [e] at s; exact s.elim
  | some y =>
    cases y with
    | none => rw [e] at s; exact s.elim
    | some w =>
      rw [e] at s
      by_cases hp : w.isP = true
      · simp only [hp, if_true] at s; exact s.elim
      · simp only [hp] at s
        obtain ⟨a, h1, h2, h3, _⟩ := R.own j w e (by simpa using hp)
        refine ⟨_, h1, ?_⟩
        refine hs F G ρ σ H _ R (Sat.imp (Sat.bind s) (fun ds ρ2 q G2 H2 vs R2 s2 r2 => ?_) fun _ _ z => z)
        exact q G2 H2 _ R2 s2 (.b h1 r2)
end

/-! ### trees without lists -/
mutual
def noL : D → Bool
  | .tup xs => noLs xs
  | .lst _ => false
  | .dct _ => false
  | _ => true
def noLs : List D → Bool
  | [] => true
  | d :: r => noL d && noLs r
end
/-- lists, locked dicts -/
def LK : HO → Prop
  | .lst _ => True
  | .frz _ (.dK _) => True
  | _ => False
/-- an own object, lent -/
def lendF : Dv → Option D
  | .o _ ds => some (.lst ds)
  | _ => none
theorem lendF_np {u : Dv} {d : D} (h : lendF u = some d) : u.isP = false := by cases u <;> first | rfl | cases h
theorem lendF_own {mg : Mg} {G H : Hp} {a : Addr} {u : Dv} {d : D} (h : lendF u = some d) (o : Own mg G H a u) : ∃ x, H a = some x ∧ LK x ∧ ∀ G' : Hp, Same G G' → G' a = some x → Rp mg G' (.ref a) d := by
  cases u with
  | p _ => cases h
  | x => cases h
  | o _ ds => cases h; obtain ⟨xs, e, r⟩ := o; exact ⟨_, e, trivial, fun G' s e' => .lst e' (r.mono s)⟩
  | k _ ds => cases h
def dropB (B : Addr → Prop) [DecidablePred B] (G : Hp) : Hp := fun a => if B a then none else G a
section
variable {mg : Mg} {G : Hp} {B : Addr → Prop} [DecidablePred B]
mutual
theorem Rp.dropB (hB : ∀ a, B a → ∃ x, G a = some x ∧ LK x) : ∀ {v : V} {d : D}, Rp mg G v d → noL d = true → Rp mg (dropB B G) v d
  | _, .non, .non, _ => .non
  | _, .bl _, .bl _, _ => .bl _
  | _, .int _, .int _, _ => .int _
  | _, .str _, .str _, _ => .str _
  | _, .tup _, .tup (a := a) e r, h => .tup (by
      unfold Fl.dropB
      rw [if_neg (fun z => by obtain ⟨_, q, l⟩ := hB a z; rw [e] at q; cases q; exact l)]; exact e) (RpA.dropB hB r (by unfold noL at h; exact h))
  | _, .lst _, .lst _ _, h => by cases h
  | _, .scr _, .scr (a := a) e, _ => .scr (by
      unfold Fl.dropB
      rw [if_neg (fun z => by obtain ⟨_, q, l⟩ := hB a z; rw [e] at q; cases q; exact l)]; exact e)
  | _, .fn _, .fn e, _ => .fn e
  | _, .dct _, .dct _ _, h => by cases h
theorem RpA.dropB (hB : ∀ a, B a → ∃ x, G a = some x ∧ LK x) : ∀ {vs : List V} {ds : List D}, RpA mg G vs ds → noLs ds = true → RpA mg (dropB B G) vs ds
  | _, [], .nil, _ => .nil
  | _, _ :: _, .cons r t, h => by
    unfold noLs at h
    obtain ⟨h1, h2⟩ := Bool.and_eq_true_iff.mp h
    exact .cons (Rp.dropB hB r h1) (RpA.dropB hB t h2)
end
end
def noLw : Dv → Bool
  | .p d => noL d
  | .o _ ds => noLs ds
  | .k _ kvs => noLs (kvs.map (·.2))
  | .x => false
/-- what the callee is told -/
def argsOf (ρ : Env) : List Arg → Option (List Dv)
  | [] => some []
  | .v d :: as => (argsOf ρ as).map fun ws => .p d :: ws
  | .r j :: as => match ρ[j]? with
    | some (some w) => if w.isP = true then none else (argsOf ρ as).map fun ws => w.setIo true :: ws
    | _ => none
  | .b j :: as => match ρ[j]? with
    | some (some u) => match lendF u with
      | some d => (argsOf ρ as).map fun ws => .p d :: ws
      | none => none
    | _ => none
def jsOf : List Arg → List Nat
  | [] => []
  | .v _ :: as => jsOf as
  | .r j :: as => j :: jsOf as
  | .b j :: as => j :: jsOf as
def bsOf : List Arg → List Nat
  | [] => []
  | .b j :: as => j :: bsOf as
  | _ :: as => bsOf as
def refsOf : List Arg → List Dv → List (Nat × Dv)
  | .r j :: as, w :: ws => (j, w) :: refsOf as ws
  | _ :: as, _ :: ws => refsOf as ws
  | _, _ => []
def ioAt (ρ : Env) (j : Nat) : Bool := match ρ[j]? with
  | some (some u) => u.io
  | _ => false
def updP : List (Nat × Dv) → Env → Env
  | [], ρ => ρ
  | (j, w) :: r, ρ => updP r (ρ.set j (some (w.setIo (ioAt ρ j))))
def nodupB : List Nat → Bool
  | [] => true
  | j :: r => !r.contains j && nodupB r
def callC (f : List Dv → R) (as : List Arg) (ρ : Env) : Out Dv := match argsOf ρ as with
  | none => .no
  | some ws => if nodupB (jsOf as) = true then match f ws with
      | .ok w ws' => if bsOf as = [] ∨ (noLw w = true ∧ ((refsOf as ws').all fun p => noLw p.2) = true) then .ok w (updP (refsOf as ws') ρ) else .no
      | .ex c => if jsOf as = [] then .ex c ρ else .no
      | .no => .no
    else .no
def callM (f : List Dv → R) (ma : M (List Arg)) : M Dv := bindM ma fun as ρ => callC f as ρ
/-! ### the call -/
section
variable {mg : Mg} {F : Fr} {G G' : Hp} {ρ : Env} {σ : L2.St} {H H' : Hp}
theorem nodupB_cons {j : Nat} {r : List Nat} (h : nodupB (j :: r) = true) : j ∉ r ∧ nodupB r = true := by
  unfold nodupB at h
  obtain ⟨h1, h2⟩ := Bool.and_eq_true_iff.mp h
  exact ⟨by simpa using h1, h2⟩
open Classical in
/-- the objects behind the slots ps as they stand in H', the rest as in H -/
noncomputable def mixH (σ : L2.St) (ps : List (Nat × Dv)) (H H' : Hp) : Hp := fun a => if ∃ p ∈ ps, σ[p.1]? = some (some (.ref a)) then H' a else H a
theorem Rel.muts : ∀ (ps : List (Nat × Dv)) (ρ : Env) (Hc : Hp), Rel mg F G ρ σ Hc → nodupB (ps.map (·.1)) = true →
    (∀ p ∈ ps, ∃ a u, ρ[p.1]? = some (some u) ∧ u.isP = false ∧ σ[p.1]? = some (some (.ref a)) ∧ p.2.isP = false ∧ Own mg G H' a p.2) → Rel mg F G (updP ps ρ) σ (mixH σ ps Hc H')
  | [], ρ, Hc, R, _, _ => by
    have e : mixH σ [] Hc H' = Hc := by funext a; unfold mixH; rw [if_neg (by simp)]
    rw [e]; exact R
  | (j, w) :: r, ρ, Hc, R, nd, h => by
    obtain ⟨a, u, h1, h2, h3, h4, h5⟩ := h (j, w) (List.mem_cons_self ..)
    have h1 : ρ[j]? = some (some u) := h1
    obtain ⟨n1, n2⟩ := nodupB_cons (j := j) nd
    obtain ⟨o, ho⟩ := h5.some
    have ow : Own mg G (upd Hc a o) a (w.setIo u.io) := by
      refine Own.setIo ?_
      cases w with
      | p _ => exact h5
      | x => exact h5
      | o _ ds => obtain ⟨xs, q1, q2⟩ := h5; exact ⟨xs, by rw [upd_same, ← ho]; exact q1, q2⟩
      | k _ ds => obtain ⟨xs, q1, q2⟩ := h5; exact ⟨xs, by rw [upd_same, ← ho]; exact q1, q2⟩
    have R1 := R.mut (u := w.setIo u.io) h1 h2 h3 (by rw [Dv.setIo_isP]; exact h4) (Dv.setIo_io h4) ow
    have e1 : ioAt ρ j = u.io := by unfold ioAt; rw [h1]
    unfold updP
    rw [e1]
    have z := Rel.muts r _ _ R1 n2 (fun p hp => by
      obtain ⟨b, u2, g1, g2, g3, g4, g5⟩ := h p (List.mem_cons_of_mem _ hp)
      have hne : j ≠ p.1 := fun e => n1 (by rw [e]; exact List.mem_map_of_mem hp)
      exact ⟨b, u2, by rw [List.getElem?_set_ne hne]; exact g1, g2, g3, g4, g5⟩)
    have e2 : mixH σ r (upd Hc a o) H' = mixH σ ((j, w) :: r) Hc H' := by
      funext b
      unfold mixH
      by_cases q : ∃ p ∈ r, σ[p.1]? = some (some (.ref b))
      · rw [if_pos q, if_pos (by obtain ⟨p, q1, q2⟩ := q; exact ⟨p, List.mem_cons_of_mem _ q1, q2⟩)]
      · rw [if_neg q]
        by_cases hb : b = a
        · subst hb
          rw [upd_same, if_pos ⟨(j, w), List.mem_cons_self .., h3⟩, ho]
        · rw [upd_ne hb, if_neg]
          rintro ⟨p, hp, e⟩
          rcases List.mem_cons.mp hp with z | z
          · subst z
            rw [h3] at e
            cases e
            exact hb rfl
          · exact q ⟨p, z, e⟩
    rw [e2] at z
    exact z
end
section
variable {mg : Mg} {F : Fr} {G : Hp} {ρ : Env} {σ : L2.St} {H : Hp}
/-- the places of the arguments -/
theorem args_at (R : Rel mg F G ρ σ H) : ∀ (as : List Arg) (vs : List V) (ws : List Dv), ArgsV mg G σ vs as → argsOf ρ as = some ws → vs.length = ws.length ∧ as.length = ws.length ∧
    ∀ (i : Nat) (w : Dv), ws[i]? = some w → (∃ d v, as[i]? = some (.v d) ∧ w = .p d ∧ vs[i]? = some v ∧ Rp mg G v d) ∨
      (∃ j a u, as[i]? = some (.r j) ∧ ρ[j]? = some (some u) ∧ u.isP = false ∧ w = u.setIo true ∧ vs[i]? = some (.ref a) ∧ σ[j]? = some (some (.ref a)) ∧ Own mg G H a u) ∨
      (∃ j a u d, as[i]? = some (.b j) ∧ (ρ[j]? = some (some u) ∧ lendF u = some d) ∧ w = .p d ∧ vs[i]? = some (.ref a) ∧ σ[j]? = some (some (.ref a)) ∧ Own mg G H a u)
  | [], _, ws, .nil, e => by
    cases e
    exact ⟨rfl, rfl, fun i w h => by simp at h⟩
  | .v d :: as, v :: vs, ws, .v r t, e => by
    unfold argsOf at e
    obtain ⟨ws', e1, e2⟩ := Option.map_eq_some_iff.mp e
    subst e2
    obtain ⟨h1, h2, h3⟩ := args_at R as vs ws' t e1
    refine ⟨by simp [h1], by simp [h2], fun i w h => ?_⟩
    cases i with
    | zero => simp at h; subst h; exact .inl ⟨d, v, rfl, rfl, rfl, r⟩
    | succ i => simpa using h3 i w (by simpa using h)
  | .r j :: as, v :: vs, ws, .r s t, e => by
    unfold argsOf at e
    split at e
    · rename_i u hu
      by_cases hp : u.isP = true
      · simp only [hp, if_true] at e; cases e
      · simp only [hp] at e
        have hp : u.isP = false := by simpa using hp
        obtain ⟨ws', e1, e2⟩ := Option.map_eq_some_iff.mp e
        subst e2
        obtain ⟨h1, h2, h3⟩ := args_at R as vs ws' t e1
        refine ⟨by simp [h1], by simp [h2], fun i w h => ?_⟩
        cases i with
        | zero =>
          simp at h
          subst h
          obtain ⟨a, g1, g2, g3, _⟩ := R.own j u hu hp
          rw [s] at g1
          cases g1
          exact .inr (.inl ⟨j, a, u, rfl, hu, hp, rfl, rfl, s, g3⟩)
        | succ i => simpa using h3 i w (by simpa using h)
    · cases e
  | .b j :: as, v :: vs, ws, .b s t, e => by
    unfold argsOf at e
    split at e
    · rename_i u hu
      split at e
      · rename_i d hd
        obtain ⟨ws', e1, e2⟩ := Option.map_eq_some_iff.mp e
        subst e2
        obtain ⟨h1, h2, h3⟩ := args_at R as vs ws' t e1
        refine ⟨by simp [h1], by simp [h2], fun i w h => ?_⟩
        cases i with
        | zero =>
          simp at h
          subst h
          obtain ⟨a, g1, g2, g3, _⟩ := R.own j _ hu (lendF_np hd)
          rw [s] at g1
          cases g1
          exact .inr (.inr ⟨j, a, u, d, rfl, ⟨hu, hd⟩, rfl, rfl, s, g3⟩)
        | succ i => simpa using h3 i w (by simpa using h)
      · cases e
    · cases e
theorem js_at : ∀ (as : List Arg) (i j : Nat), (as[i]? = some (.r j) ∨ as[i]? = some (.b j)) → j ∈ jsOf as
  | [], i, j, h => by simp at h
  | a :: as, 0, j, h => by
    simp at h
    rcases h with h | h <;> subst h <;> exact List.mem_cons_self ..
  | a :: as, i + 1, j, h => by
    have z := js_at as i j (by simpa using h)
    cases a with
    | v _ => exact z
    | r _ => exact List.mem_cons_of_mem _ z
    | b _ => exact List.mem_cons_of_mem _ z
theorem js_inj : ∀ (as : List Arg), nodupB (jsOf as) = true → ∀ (i i' j : Nat), (as[i]? = some (.r j) ∨ as[i]? = some (.b j)) → (as[i']? = some (.r j) ∨ as[i']? = some (.b j)) → i = i'
  | [], _, i, i', j, h, _ => by simp at h
  | a :: as, nd, 0, 0, j, _, _ => rfl
  | a :: as, nd, 0, i' + 1, j, h, h' => by
    exfalso
    have z := js_at as i' j (by simpa using h')
    simp at h
    rcases h with h | h <;> subst h <;> exact (nodupB_cons nd).1 z
  | a :: as, nd, i + 1, 0, j, h, h' => by
    exfalso
    have z := js_at as i j (by simpa using h)
    simp at h'
    rcases h' with h | h <;> subst h <;> exact (nodupB_cons nd).1 z
  | a :: as, nd, i + 1, i' + 1, j, h, h' => by
    have nd' : nodupB (jsOf as) = true := by
      cases a with
      | v _ => exact nd
      | r _ => exact (nodupB_cons nd).2
      | b _ => exact (nodupB_cons nd).2
    rw [js_inj as nd' i i' j (by simpa using h) (by simpa using h')]
theorem bs_at : ∀ (as : List Arg) (j : Nat), j ∈ bsOf as ↔ ∃ i : Nat, as[i]? = some (.b j)
  | [], j => by simp [bsOf]
  | a :: as, j => by
    have ih := bs_at as j
    constructor
    · intro h
      cases a with
      | v _ => obtain ⟨i, e⟩ := ih.mp h; exact ⟨i + 1, by simpa using e⟩
      | r _ => obtain ⟨i, e⟩ := ih.mp h; exact ⟨i + 1, by simpa using e⟩
      | b k =>
        rcases List.mem_cons.mp h with z | z
        · subst z; exact ⟨0, rfl⟩
        · obtain ⟨i, e⟩ := ih.mp z; exact ⟨i + 1, by simpa using e⟩
    · rintro ⟨i, e⟩
      cases i with
      | zero => simp at e; subst e; exact List.mem_cons_self ..
      | succ i =>
        have z := ih.mpr ⟨i, by simpa using e⟩
        cases a with
        | v _ => exact z
        | r _ => exact z
        | b _ => exact List.mem_cons_of_mem _ z
theorem refs_at : ∀ (as : List Arg) (ws : List Dv) (p : Nat × Dv), p ∈ refsOf as ws → ∃ i : Nat, as[i]? = some (.r p.1) ∧ ws[i]? = some p.2
  | [], [], p, h => by cases h
  | [], _ :: _, p, h => by cases h
  | .r _ :: _, [], p, h => by cases h
  | .v _ :: _, [], p, h => by cases h
  | .b _ :: _, [], p, h => by cases h
  | .r j :: as, w :: ws, p, h => by
    rcases List.mem_cons.mp h with z | z
    · subst z; exact ⟨0, rfl, rfl⟩
    · obtain ⟨i, e1, e2⟩ := refs_at as ws p z; exact ⟨i + 1, by simpa using e1, by simpa using e2⟩
  | .v _ :: as, w :: ws, p, h => by
    obtain ⟨i, e1, e2⟩ := refs_at as ws p h; exact ⟨i + 1, by simpa using e1, by simpa using e2⟩
  | .b _ :: as, w :: ws, p, h => by
    obtain ⟨i, e1, e2⟩ := refs_at as ws p h; exact ⟨i + 1, by simpa using e1, by simpa using e2⟩
theorem refs_mem : ∀ (as : List Arg) (ws : List Dv) (i j : Nat), as.length = ws.length → as[i]? = some (.r j) → ∃ p ∈ refsOf as ws, p.1 = j
  | [], [], i, j, _, h => by simp at h
  | a :: as, w :: ws, 0, j, _, h => by simp at h; subst h; exact ⟨(j, w), List.mem_cons_self .., rfl⟩
  | a :: as, w :: ws, i + 1, j, hl, h => by
    obtain ⟨p, h1, h2⟩ := refs_mem as ws i j (by simpa using hl) (by simpa using h)
    cases a with
    | v _ => exact ⟨p, h1, h2⟩
    | r _ => exact ⟨p, List.mem_cons_of_mem _ h1, h2⟩
    | b _ => exact ⟨p, h1, h2⟩
theorem refs_sub : ∀ (as : List Arg) (ws : List Dv) (j : Nat), j ∈ (refsOf as ws).map (·.1) → j ∈ jsOf as
  | as, ws, j, h => by
    obtain ⟨p, h1, h2⟩ := List.mem_map.mp h
    obtain ⟨i, e, _⟩ := refs_at as ws p h1
    rw [h2] at e
    exact js_at as i j (.inl e)
theorem refs_nodup : ∀ (as : List Arg) (ws : List Dv), nodupB (jsOf as) = true → nodupB ((refsOf as ws).map (·.1)) = true
  | [], [], _ => rfl
  | [], _ :: _, _ => rfl
  | .r _ :: _, [], _ => rfl
  | .v _ :: _, [], _ => rfl
  | .b _ :: _, [], _ => rfl
  | .r j :: as, w :: ws, h => by
    obtain ⟨h1, h2⟩ := nodupB_cons h
    show (!((refsOf as ws).map (·.1)).contains j && nodupB ((refsOf as ws).map (·.1))) = true
    have c : ((refsOf as ws).map (·.1)).contains j = false := by
      rw [Bool.eq_false_iff]
      intro q
      exact h1 (refs_sub as ws j (List.contains_iff_mem.mp q))
    rw [refs_nodup as ws h2, c]
    rfl
  | .v _ :: as, w :: ws, h => refs_nodup as ws h
  | .b _ :: as, w :: ws, h => refs_nodup as ws (nodupB_cons h).2
end
theorem none_of_same_G {G G' : Hp} (s : Same G G') {p : Addr} (e : G' p = none) : G p = none := none_of_same s e
theorem updP_ne : ∀ (ps : List (Nat × Dv)) (ρ : Env) (j : Nat), (∀ p ∈ ps, p.1 ≠ j) → (updP ps ρ)[j]? = ρ[j]?
  | [], _, _, _ => rfl
  | (k, w) :: r, ρ, j, h => by
    unfold updP
    rw [updP_ne r _ j (fun p hp => h p (List.mem_cons_of_mem _ hp)), List.getElem?_set_ne (h (k, w) (List.mem_cons_self ..))]
theorem updP_old (ps : List (Nat × Dv)) (ρ : Env) (j : Nat) (u : Dv) (e : (updP ps ρ)[j]? = some (some u)) (h : u.isP = false) (hp : ∀ p ∈ ps, ∃ u0, ρ[p.1]? = some (some u0) ∧ u0.isP = false) : ∃ u0, ρ[j]? = some (some u0) ∧ u0.isP = false := by
  by_cases z : ∃ p ∈ ps, p.1 = j
  · obtain ⟨p, h1, h2⟩ := z
    rw [← h2]
    exact hp p h1
  · rw [updP_ne ps ρ j (fun p h1 h2 => z ⟨p, h1, h2⟩)] at e
    exact ⟨u, e, h⟩
/-- what a call gives: a tree, or a new object that nobody holds -/
def RetN (mg : Mg) (F : Fr) (G : Hp) (ρ : Env) (σ : L2.St) (H : Hp) (v : V) : Dv → Prop
  | .p d => Rp mg G v d
  | w => ∃ a, v = .ref a ∧ NewO mg F G ρ σ H a w
def HX (mg : Mg) (W : WX) (t : TE) (m : M Dv) : Prop := ∀ (F : Fr) (G : Hp) (ρ : Env) (σ : L2.St) (H : Hp) (Q : VK), Rel mg F G ρ σ H →
  Sat (m ρ) (fun w ρ' => ∀ G' H' v, Rel mg F G' ρ' σ H' → Same G G' → RetN mg F G' ρ' σ H' v w → Q v H') (ExK mg W F) → t σ H Q
def SX (Φ : Fam) (e : Expr) (m : M Dv) : Prop := ∃ t, (∀ i, PE (Φ.X i) e t) ∧ HX Φ.mg Φ.W t m
open Classical in
theorem call_core {mg : Mg} {F : Fr} {G1 : Hp} {ρ1 : Env} {σ : L2.St} {H1 : Hp} {vs : List V} {as : List Arg} {f : List Dv → R} {Q : VK} {E : XK} {Ex : Exn → Env → Prop} (R1 : Rel mg F G1 ρ1 σ H1) (av : ArgsV mg G1 σ vs as)
    (hE : ∀ c G' H' cls od, Ex c ρ1 → Rel mg F G' ρ1 σ H' → ExR mg c cls od G' H' → E cls od H') (q : Sat (callC f as ρ1) (fun w ρ' => ∀ G' H' v, Rel mg F G' ρ' σ H' → Same G1 G' → RetN mg F G' ρ' σ H' v w → Q v H') Ex) : SpM mg f vs H1 Q E := by
  unfold callC at q
  cases hw : argsOf ρ1 as with
  | none => rw [hw] at q; exact q.elim
  | some ws =>
    rw [hw] at q
    simp only at q
    by_cases nd : nodupB (jsOf as) = true
    rotate_left
    · rw [if_neg nd] at q; exact q.elim
    rw [if_pos nd] at q
    obtain ⟨l1, l2, at_⟩ := args_at R1 as vs ws av hw
    -- the lent lists
    let B : Addr → Prop := fun a => ∃ j, j ∈ bsOf as ∧ σ[j]? = some (some (.ref a))
    let Gc : Hp := fun a => if B a then H1 a else G1 a
    have hB : ∀ a, B a → G1 a = none ∧ ∃ x, H1 a = some x ∧ LK x := by
      rintro a ⟨j, hj, hs⟩
      obtain ⟨i, hi⟩ := (bs_at as j).mp hj
      have hi2 : i < ws.length := by rw [← l2]; exact (List.getElem?_eq_some_iff.mp hi).1
      rcases at_ i ws[i] (List.getElem?_eq_getElem hi2) with ⟨d, v, e1, _⟩ | ⟨j', a', u, e1, _⟩ | ⟨j', a', f', ds, e1, e2, e3, e4, e5, e6⟩
      · rw [hi] at e1; cases e1
      · rw [hi] at e1; cases e1
      · rw [hi] at e1
        cases e1
        rw [hs] at e5
        cases e5
        obtain ⟨b, g1, g2, _⟩ := R1.own j _ e2.1 (lendF_np e2.2)
        rw [hs] at g1
        cases g1
        obtain ⟨x, q1, q2, _⟩ := lendF_own e2.2 e6
        exact ⟨g2, x, q1, q2⟩
    have sGc : Same G1 Gc := fun a o e => by
      show (if B a then H1 a else G1 a) = some o
      by_cases z : B a
      · rw [(hB a z).1] at e; cases e
      · rw [if_neg z]; exact e
    have sub : Same Gc H1 := fun a o e => by
      have e : (if B a then H1 a else G1 a) = some o := e
      by_cases z : B a
      · rw [if_pos z] at e; exact e
      · rw [if_neg z] at e; exact R1.sub _ _ e
    -- an own slot's address is not lent
    have rB : ∀ (i j : Nat) (a : Addr), as[i]? = some (.r j) → σ[j]? = some (some (.ref a)) → ¬ B a := by
      rintro i j a hi hs ⟨j2, hj2, hs2⟩
      obtain ⟨i2, hi2⟩ := (bs_at as j2).mp hj2
      have hi' : i < ws.length := by rw [← l2]; exact (List.getElem?_eq_some_iff.mp hi).1
      have hi2' : i2 < ws.length := by rw [← l2]; exact (List.getElem?_eq_some_iff.mp hi2).1
      have o1 : ∃ u, ρ1[j]? = some (some u) ∧ u.isP = false := by
        rcases at_ i ws[i] (List.getElem?_eq_getElem hi') with ⟨d, v, e1, _⟩ | ⟨j', a', u, e1, e2, e3, _⟩ | ⟨j', a', f', ds, e1, _⟩
        · rw [hi] at e1; cases e1
        · rw [hi] at e1; cases e1; exact ⟨u, e2, e3⟩
        · rw [hi] at e1; cases e1
      have o2 : ∃ u, ρ1[j2]? = some (some u) ∧ u.isP = false := by
        rcases at_ i2 ws[i2] (List.getElem?_eq_getElem hi2') with ⟨d, v, e1, _⟩ | ⟨j', a', u, e1, e2, e3, _⟩ | ⟨j', a', f', ds, e1, e2, _⟩
        · rw [hi2] at e1; cases e1
        · rw [hi2] at e1; cases e1
        · rw [hi2] at e1; cases e1; exact ⟨_, e2.1, lendF_np e2.2⟩
      obtain ⟨u1, p1, p2⟩ := o1
      obtain ⟨u2, p3, p4⟩ := o2
      by_cases hj : j = j2
      · subst hj
        have z := js_inj as nd i i2 j (.inl hi) (.inr hi2)
        subst z
        rw [hi] at hi2
        cases hi2
      · exact R1.dist j j2 u1 u2 a hj p1 p3 p2 p4 hs hs2
    have pre : Pre mg Gc H1 vs ws := by
      refine ⟨sub, l1, fun i v w hv hw => ?_, fun i j u w a hne hu hw pu pw su sw => ?_⟩
      · rcases at_ i w hw with ⟨d, v', e1, e2, e3, e4⟩ | ⟨j, a, u, e1, e2, e3, e4, e5, e6, e7⟩ | ⟨j, a, f', ds, e1, e2, e3, e4, e5, e6⟩
        · subst e2; rw [hv] at e3; cases e3; exact e4.mono sGc
        · subst e4
          rw [hv] at e5
          cases e5
          obtain ⟨b, g1, g2, g3, _⟩ := R1.own j u e2 e3
          rw [e6] at g1
          cases g1
          have gn : Gc a = none := by
            show (if B a then H1 a else G1 a) = none
            rw [if_neg (rB i j a e1 e6)]; exact g2
          have z : ∃ a', V.ref a = .ref a' ∧ (u.setIo true).io = true ∧ Gc a' = none ∧ Own mg Gc H1 a' (u.setIo true) := ⟨a, rfl, Dv.setIo_io e3, gn, (e7.ext sGc Same.rfl).setIo⟩
          cases u with
          | p _ => cases e3
          | x => cases e3
          | o _ _ => exact z
          | k _ _ => exact z
        · subst e3
          rw [hv] at e4
          cases e4
          obtain ⟨x, q1, q2, q3⟩ := lendF_own e2.2 e6
          refine q3 Gc sGc ?_
          show (if B a then H1 a else G1 a) = _
          rw [if_pos ⟨j, (bs_at as j).mpr ⟨i, e1⟩, e5⟩]; exact q1
      · rcases at_ i u hu with ⟨d, v', e1, e2, e3, e4⟩ | ⟨j1, a1, u1, e1, e2, e3, e4, e5, e6, e7⟩ | ⟨j1, a1, f1, ds, e1, e2, e3, e4, e5, e6⟩
        · subst e2; cases pu
        · rcases at_ j w hw with ⟨d, v', g1, g2, g3, g4⟩ | ⟨j2, a2, u2, g1, g2, g3, g4, g5, g6, g7⟩ | ⟨j2, a2, f2, ds, g1, g2, g3, g4, g5, g6⟩
          · subst g2; cases pw
          · rw [su] at e5
            rw [sw] at g5
            cases e5
            cases g5
            by_cases hj : j1 = j2
            · subst hj; exact hne (js_inj as nd i j j1 (.inl e1) (.inl g1))
            · exact R1.dist j1 j2 u1 u2 a hj e2 g2 e3 g3 e6 g6
          · subst g3; cases pw
        · subst e3; cases pu
    refine ⟨Gc, ws, pre, ?_⟩
    cases hf : f ws with
    | no => rw [hf] at q; exact q.elim
    | ex c =>
      rw [hf] at q
      simp only at q
      by_cases hj : jsOf as = []
      rotate_left
      · rw [if_neg hj] at q; exact q.elim
      rw [if_pos hj] at q
      intro G' H' cls od fin ex
      have hb : bsOf as = [] := by
        cases z : bsOf as with
        | nil => rfl
        | cons j r =>
          obtain ⟨i, hi⟩ := (bs_at as j).mp (by rw [z]; exact List.mem_cons_self ..)
          have y := js_at as i j (.inr hi)
          rw [hj] at y
          cases y
      have eG : Gc = G1 := by
        funext a
        show (if B a then H1 a else G1 a) = G1 a
        rw [if_neg (by rintro ⟨j, h, _⟩; rw [hb] at h; cases h)]
      rw [eG] at fin
      have noIo : ∀ a i, ¬ IoA vs ws i a := by
        rintro a i ⟨w, h1, h2, h3⟩
        rcases at_ i w h1 with ⟨d, v', e1, e2, _⟩ | ⟨j, a', u, e1, _⟩ | ⟨j, a', f', ds, e1, _⟩
        · subst e2; cases h2
        · have y := js_at as i j (.inl e1); rw [hj] at y; cases y
        · have y := js_at as i j (.inr e1); rw [hj] at y; cases y
      have xt : Ext G1 H1 G' H' := ⟨fun a o e => fin.h a o e (noIo a), fin.g, fin.s, fun a e n => by
        cases z : H1 a with
        | none => rfl
        | some o => exact absurd (fin.n a (by rw [z]; simp) e) n⟩
      exact hE c G' H' cls od q (R1.ext xt) ex
    | ok w ws' =>
      rw [hf] at q
      simp only at q
      by_cases hk : bsOf as = [] ∨ (noLw w = true ∧ ((refsOf as ws').all fun p => noLw p.2) = true)
      rotate_left
      · rw [if_neg hk] at q; exact q.elim
      rw [if_pos hk] at q
      intro G' H' v fin rv
      let G2 : Hp := dropB B G'
      have hBG' : ∀ a, B a → ∃ x, G' a = some x ∧ LK x := fun a hb => by
        obtain ⟨_, x, h2, hl⟩ := hB a hb
        refine ⟨x, fin.g a _ ?_, hl⟩
        show (if B a then H1 a else G1 a) = _
        rw [if_pos hb]; exact h2
      have emptyB : bsOf as = [] → ∀ a, ¬ B a := fun h a => by rintro ⟨j, hj, _⟩; rw [h] at hj; cases hj
      have eG2 : bsOf as = [] → G2 = G' := fun h => by
        funext a
        show (if B a then none else G' a) = G' a
        rw [if_neg (emptyB h a)]
      have tr : ∀ (x : V) (d : D), Rp mg G' x d → (bsOf as = [] ∨ noL d = true) → Rp mg G2 x d := fun x d r h => by
        rcases h with h | h
        · rw [eG2 h]; exact r
        · exact r.dropB hBG' h
      have trA : ∀ (xs : List V) (ds : List D), RpA mg G' xs ds → (bsOf as = [] ∨ noLs ds = true) → RpA mg G2 xs ds := fun x d r h => by
        rcases h with h | h
        · rw [eG2 h]; exact r
        · exact r.dropB hBG' h
      have trK : ∀ (xs : List (Key × V)) (ds : List (Key × D)), KvA mg G' xs ds → (bsOf as = [] ∨ noLs (ds.map (·.2)) = true) → KvA mg G2 xs ds := fun x d r h => by
        rcases h with h | h
        · rw [eG2 h]; exact r
        · induction r with
          | nil => exact .nil
          | cons r t ih =>
            have h : (noL _ && noLs _) = true := h
            obtain ⟨h1, h2⟩ := Bool.and_eq_true_iff.mp h
            exact .cons ⟨r.1, r.2.dropB hBG' h1⟩ (ih h2)
      have trO : ∀ (a : Addr) (u : Dv), Own mg G' H' a u → (bsOf as = [] ∨ noLw u = true) → Own mg G2 H' a u := fun a u h hh => by
        cases u with
        | p _ => exact h
        | x => exact h
        | o _ ds => obtain ⟨xs, q1, q2⟩ := h; exact ⟨xs, q1, trA _ _ q2 hh⟩
        | k _ ds => obtain ⟨xs, q1, q2⟩ := h; exact ⟨xs, q1, trK _ _ q2 hh⟩
      have sG2 : Same G1 G2 := fun a o e => by
        show (if B a then none else G' a) = some o
        rw [if_neg (fun z => by rw [(hB a z).1] at e; cases e)]
        exact fin.g _ _ (sGc _ _ e)
      have nG2 : ∀ a, H1 a ≠ none → G1 a = none → G2 a = none := fun a h1 h2 => by
        show (if B a then none else G' a) = none
        by_cases z : B a
        · rw [if_pos z]
        · rw [if_neg z]
          refine fin.n a h1 ?_
          show (if B a then H1 a else G1 a) = none
          rw [if_neg z]; exact h2
      have sH2 : Same G2 H' := fun a o e => by
        have e : (if B a then none else G' a) = some o := e
        by_cases z : B a
        · rw [if_pos z] at e; cases e
        · rw [if_neg z] at e; exact fin.s _ _ e
      -- the slots that are handed on
      let ps := refsOf as ws'
      have l3 : as.length = ws'.length := by rw [l2, fin.len]
      let He : Hp := mixH σ ps H' H1
      have refAddr : ∀ a, (∃ p ∈ ps, σ[p.1]? = some (some (.ref a))) → ∃ i, IoA vs ws i a := by
        rintro a ⟨p, hp, hs⟩
        obtain ⟨i, e1, e2⟩ := refs_at as ws' p hp
        have hi : i < ws.length := by rw [← l2]; exact (List.getElem?_eq_some_iff.mp e1).1
        rcases at_ i ws[i] (List.getElem?_eq_getElem hi) with ⟨d, v', g1, _⟩ | ⟨j, a', u, g1, g2, g3, g4, g5, g6, g7⟩ | ⟨j, a', f', ds, g1, _⟩
        · rw [e1] at g1; cases g1
        · rw [e1] at g1
          cases g1
          rw [hs] at g6
          cases g6
          exact ⟨i, ws[i], List.getElem?_eq_getElem hi, by rw [g4, Dv.setIo_isP]; exact g3, g5⟩
        · rw [e1] at g1; cases g1
      have ioRef : ∀ a i, IoA vs ws i a → ∃ p ∈ ps, σ[p.1]? = some (some (.ref a)) := by
        rintro a i ⟨w0, h1, h2, h3⟩
        rcases at_ i w0 h1 with ⟨d, v', g1, g2, _⟩ | ⟨j, a', u, g1, g2, g3, g4, g5, g6, g7⟩ | ⟨j, a', f', ds, g1, g2, g3, _⟩
        · subst g2; cases h2
        · rw [h3] at g5
          cases g5
          obtain ⟨p, hp, e⟩ := refs_mem as ws' i j l3 g1
          exact ⟨p, hp, by rw [e]; exact g6⟩
        · subst g3; cases h2
      have eHe : ∀ a, (∃ p ∈ ps, σ[p.1]? = some (some (.ref a))) → He a = H1 a := fun a h => if_pos h
      have eHn : ∀ a, (¬ ∃ p ∈ ps, σ[p.1]? = some (some (.ref a))) → He a = H' a := fun a h => if_neg h
      have xt : Ext G1 H1 G2 He := by
        refine ⟨fun a o e => ?_, sG2, fun a o e => ?_, fun a e n => ?_⟩
        · by_cases z : ∃ p ∈ ps, σ[p.1]? = some (some (.ref a))
          · rw [eHe a z]; exact e
          · rw [eHn a z]; exact fin.h a o e fun i hi => z (ioRef a i hi)
        · by_cases z : ∃ p ∈ ps, σ[p.1]? = some (some (.ref a))
          · exfalso
            obtain ⟨i, w0, h1, h2, h3⟩ := refAddr a z
            have ar := pre.arg i _ w0 h3 h1
            have g : Gc a = none ∧ ∃ o, H1 a = some o := by
              cases w0 with
              | p _ => cases h2
              | x => cases h2
              | o _ _ => obtain ⟨b, q0, _, q1, q2⟩ := ar; cases q0; exact ⟨q1, q2.some⟩
              | k _ _ => obtain ⟨b, q0, _, q1, q2⟩ := ar; cases q0; exact ⟨q1, q2.some⟩
            obtain ⟨g1, o2, g2⟩ := g
            have g3 := nG2 a (by rw [g2]; simp) (none_of_same_G sGc g1)
            rw [g3] at e
            cases e
          · rw [eHn a z]; exact sH2 _ _ e
        · cases z : H1 a with
          | none => rfl
          | some o => exact absurd (nG2 a (by rw [z]; simp) e) n
      have R2 := R1.ext xt
      have hall : ∀ p ∈ ps, bsOf as = [] ∨ noLw p.2 = true := fun p hp => by
        rcases hk with h | h
        · exact .inl h
        · exact .inr (List.all_eq_true.mp h.2 _ hp)
      have R3 := Rel.muts (H' := H') ps ρ1 He R2 (refs_nodup as ws' nd) (fun p hp => by
        obtain ⟨i, e1, e2⟩ := refs_at as ws' p hp
        have hi : i < ws.length := by rw [← l2]; exact (List.getElem?_eq_some_iff.mp e1).1
        rcases at_ i ws[i] (List.getElem?_eq_getElem hi) with ⟨d, v', g1, _⟩ | ⟨j, a', u, g1, g2, g3, g4, g5, g6, g7⟩ | ⟨j, a', f', ds, g1, _⟩
        · rw [e1] at g1; cases g1
        · rw [e1] at g1
          cases g1
          obtain ⟨w2, k1, k2, k3, k4⟩ := fin.o i a' ⟨ws[i], List.getElem?_eq_getElem hi, by rw [g4, Dv.setIo_isP]; exact g3, g5⟩
          rw [e2] at k1
          cases k1
          exact ⟨a', u, g2, g3, g6, k2, trO _ _ k4 (hall p hp)⟩
        · rw [e1] at g1; cases g1)
      have eH : mixH σ ps He H' = H' := by
        funext a
        unfold mixH
        by_cases z : ∃ p ∈ ps, σ[p.1]? = some (some (.ref a))
        · rw [if_pos z]
        · rw [if_neg z]; exact eHn a z
      rw [eH] at R3
      refine q G2 H' v R3 sG2 ?_
      have nw : ∀ a, H1 a = none → ∀ (j : Nat) (u : Dv), (updP ps ρ1)[j]? = some (some u) → u.isP = false → σ[j]? = some (some (.ref a)) → False := fun a ha j u e1 e2 e3 => by
        obtain ⟨b, h1, h2, h3, h4, h5⟩ := R3.own j u e1 e2
        rw [e3] at h1
        cases h1
        -- the slot held an own object at the start, too
        have : ∃ u0, ρ1[j]? = some (some u0) ∧ u0.isP = false := updP_old ps ρ1 j u e1 e2 (fun p hp => by
          obtain ⟨i, k1, k2⟩ := refs_at as ws' p hp
          have hi : i < ws.length := by rw [← l2]; exact (List.getElem?_eq_some_iff.mp k1).1
          rcases at_ i ws[i] (List.getElem?_eq_getElem hi) with ⟨d, v', g1, _⟩ | ⟨j, a', u, g1, g2, g3, _⟩ | ⟨j, a', f', ds, g1, _⟩
          · rw [k1] at g1; cases g1
          · rw [k1] at g1; cases g1; exact ⟨u, g2, g3⟩
          · rw [k1] at g1; cases g1)
        obtain ⟨u0, g1, g2⟩ := this
        obtain ⟨c, k1, _, k3, _⟩ := R1.own j u0 g1 g2
        rw [e3] at k1
        cases k1
        obtain ⟨o, k⟩ := k3.some
        rw [ha] at k
        cases k
      have hwk : bsOf as = [] ∨ noLw w = true := by
        rcases hk with h | h
        · exact .inl h
        · exact .inr h.1
      have f0 : ∀ a, H1 a = none → F.H0 a = none := fun a h => by
        cases z : F.H0 a with
        | none => rfl
        | some o => exact absurd h (R1.old (by rw [z]; simp))
      cases w with
      | p d => exact tr v d rv hwk
      | x => obtain ⟨a, h1, h2, _⟩ := rv; cases h2
      | o io ds =>
        obtain ⟨a, h1, h2, h3, h4, h5⟩ := rv
        refine ⟨a, h1, rfl, h2, ?_, trO _ _ h4 hwk, f0 a h5, nw a h5⟩
        show (if B a then none else G' a) = none
        by_cases z : B a
        · rw [if_pos z]
        · rw [if_neg z]; exact h3
      | k io ds =>
        obtain ⟨a, h1, h2, h3, h4, h5⟩ := rv
        refine ⟨a, h1, rfl, h2, ?_, trO _ _ h4 hwk, f0 a h5, nw a h5⟩
        show (if B a then none else G' a) = none
        by_cases z : B a
        · rw [if_pos z]
        · rw [if_neg z]; exact h3
theorem hx_call {mg : Mg} {W : WX} {t : TA} {ma : M (List Arg)} {f : List Dv → R} (ha : HR mg W t ma) : HX mg W (tCallS (SpM mg f) (WE W) t) (callM f ma) := by
  intro F G ρ σ H Q R s
  refine ha F G ρ σ H _ R (s.bind.imp (fun as ρ1 q G1 H1 vs R1 s1 av => ?_) fun _ _ z => z)
  exact call_core R1 av (fun c G' H' cls od e r x => e G' σ H' cls od r x) (q.imp (fun w ρ' z G' H' v R' s' rn => z G' H' v R' (s1.trans s') rn) fun _ _ z => z)
section
variable {Φ : Fam}
theorem sx_call {k : Nat} {x : Str} {p pos : Pos} {e : Expr} {es : List Expr} {m : M (List Arg)} {f : List Dv → R} (F : Fn Φ.P Φ.w Φ.K Φ.mg Φ.base k x f) (hk : k ≤ Φ.k) (hg : Φ.sc.names.lookup x = some .globalImplicit) (h : SR Φ (e :: es) m) (hd : (x == ("__debug__" : Str)) = false := by decide)
    (hst : ∀ env, starEach (e :: es) env = (false, eval e env) :: starEach es env := by intro _; first | rfl | with_unfolding_all rfl) (hs : ∀ pos env, (backTo pos (starEach es env)).any (fun x => x.1) = false := by intro _ _; first | rfl | with_unfolding_all rfl) (hc : Φ.cal = true := by rfl) :
    SX Φ (.Call (.Name x p) (e :: es) [] pos) (callM f m) := by
  obtain ⟨t, q, h⟩ := h
  obtain ⟨fa, fd, ps, h1, h2, h3, h4⟩ := F
  refine ⟨tCallS (SpM Φ.mg f) (WE Φ.W) t, fun i => ?_, hx_call h⟩
  have F' : FnOk (Φ.X i).prog (Φ.X i).w (Φ.X i).K (Φ.X i).mg (Φ.X i).base (CX (Φ.X i).prog (Φ.X i).w) k fa fd ps (SpM Φ.mg f) := by
    rw [Φ.hP i, Φ.hw i, Φ.hK i, Φ.hmg i, Φ.hbase i]; exact h4
  exact pe_callS F' ((Φ.rm hc i).mono hk) (Φ.gl hg i) (Φ.mgn h1 i) (by rw [Φ.hK i]; exact h2) (by rw [Φ.hK i]; exact h3) (fun σ => passAt (Φ.takes i) σ) (q i) hd (hst _) (hs _ _)
theorem se_sx {e : Expr} {m : M Dv} (h : SX Φ e m) : SE Φ e (frzM m) := by
  obtain ⟨t, p, h⟩ := h
  refine ⟨tFrz t, fun i => pe_frz (p i), fun F G ρ σ H Q R s => h F G ρ σ H _ R (s.bind.imp (fun w ρ' q G' H' v R' sg rn => ?_) fun _ _ z => z)⟩
  obtain ⟨d, e1, q⟩ := q.opt
  cases w with
  | p d => cases e1; exact .inl (q G' H' v R' sg rn)
  | o b ds =>
    cases e1
    obtain ⟨a, rfl, N⟩ := rn
    obtain ⟨xs, e, R2, sg2, r⟩ := R'.freeze N
    exact .inl (q _ _ _ R2 (sg.trans sg2) r)
  | k b ds =>
    cases e1
    obtain ⟨a, rfl, N⟩ := rn
    obtain ⟨vs, e, z⟩ := R'.freezeK N
    refine .inr ⟨a, _, rfl, e, trivial, fun od => ?_⟩
    obtain ⟨R2, sg2, r⟩ := z od
    exact q _ _ _ R2 (sg.trans sg2) r
  | x => cases e1
def ownF : Dv → Option Dv
  | .p _ => none
  | .x => none
  | w => some w
theorem so_sx {e : Expr} {m : M Dv} (h : SX Φ e m) : SO Φ e (bindM m fun w => optM (ownF w)) := by
  obtain ⟨t, p, h⟩ := h
  refine ⟨t, p, fun F G ρ σ H Q R s => h F G ρ σ H Q R (s.bind.imp (fun w ρ' q G' H' v R' sg rn => ?_) fun _ _ z => z)⟩
  obtain ⟨d, e1, q⟩ := q.opt
  cases w with
  | p d => cases e1
  | x => cases e1
  | o b ds => cases e1; obtain ⟨a, rfl, N⟩ := rn; exact q _ _ _ R' sg N
  | k b ds => cases e1; obtain ⟨a, rfl, N⟩ := rn; exact q _ _ _ R' sg N
theorem ss_retX {e : Expr} {pos : Pos} {m : M Dv} (h : SX Φ e m) : SS Φ (.Return (some e) pos) (retO m) := by
  obtain ⟨t, p, h⟩ := h
  refine ⟨_, fun i => ps_ret (p i), fun F G ρ σ H D R s => ?_⟩
  refine h F G ρ σ H _ R (s.bind.imp (fun w ρ1 q G1 H1 v R1 s1 rn => ?_) fun _ _ z => z)
  refine q G1 σ H1 _ R1 s1 ?_
  cases w with
  | p d => exact rn
  | x => obtain ⟨a, h1, N⟩ := rn; exact absurd N.nio (by simp [Dv.io])
  | o b ds => obtain ⟨a, rfl, N⟩ := rn; exact ⟨a, rfl, N.nio, N.g, N.own, N.h0⟩
  | k b ds => obtain ⟨a, rfl, N⟩ := rn; exact ⟨a, rfl, N.nio, N.g, N.own, N.h0⟩
end
end Fl
end

section
set_option Elab.async false
set_option linter.all false
set_option maxRecDepth 100000
set_option autoImplicit false
/-! Fl, part C: operators, built-ins, subscripts, methods. -/
namespace Fl
open PySem PySem.Spec PyProof.Rows L2

/-! ### keys -/
def keyF : D → Option Key
  | .int i => some (.inl i)
  | .str s => some (.inr s)
  | _ => none
def kvD (kvs : List (Key × D)) (k : Key) : Option D := (kvs.find? fun kv => decide (kv.1 = k)).map (·.2)
def kvPut (kvs : List (Key × D)) (k : Key) (v : D) : List (Key × D) := if (kvs.any fun kv => decide (kv.1 = k)) = true then kvs.map fun kv => if kv.1 = k then (kv.1, v) else kv else kvs ++ [(k, v)]
theorem key_v {mg : Mg} {G : Hp} {v : V} {d : D} {k : Key} (r : Rp mg G v d) (h : keyF d = some k) : v = kV k := by
  cases r <;> first | (cases h; rfl) | cases h
theorem key_rp {mg : Mg} {G : Hp} (k : Key) : ∃ d, keyF d = some k ∧ Rp mg G (kV k) d := by
  cases k with
  | inl i => exact ⟨.int i, rfl, .int i⟩
  | inr s => exact ⟨.str s, rfl, .str s⟩
theorem RpK.len {mg : Mg} {G : Hp} : ∀ {vs : List (Key × V)} {kvs : List (Key × D)}, RpK mg G vs kvs → vs.length = kvs.length
  | _, _, .nil => rfl
  | _, _, .cons _ t => by rw [List.length_cons, List.length_cons, t.len]
theorem RpK.val {mg : Mg} {G : Hp} (k : Key) : ∀ {vs : List (Key × V)} {kvs : List (Key × D)}, RpK mg G vs kvs → (valV vs k = none ∧ kvD kvs k = none) ∨ ∃ v d, valV vs k = some v ∧ kvD kvs k = some d ∧ Rp mg G v d
  | _, _, .nil => .inl ⟨rfl, rfl⟩
  | (k2, v) :: vs, (_, d) :: kvs, .cons r t => by
    by_cases h : k2 = k
    · exact .inr ⟨v, d, by simp [valV, h], by simp [kvD, h], r⟩
    · rcases RpK.val k t with ⟨h1, h2⟩ | ⟨v2, d2, h1, h2, h3⟩
      · exact .inl ⟨by simpa [valV, h] using h1, by simpa [kvD, h] using h2⟩
      · exact .inr ⟨v2, d2, by simpa [valV, h] using h1, by simpa [kvD, h] using h2, h3⟩
theorem RpK.get {mg : Mg} {G : Hp} {k : Key} {d : D} : ∀ {vs : List (Key × V)} {kvs : List (Key × D)} {i : Nat}, RpK mg G vs kvs → kvs[i]? = some (k, d) → ∃ v, vs[i]? = some (k, v) ∧ Rp mg G v d
  | _, _, _, .nil, e => by simp at e
  | _, _, 0, .cons r _, e => by simp at e; obtain ⟨rfl, rfl⟩ := e; exact ⟨_, rfl, r⟩
  | _, _, i + 1, .cons _ t, e => by
    obtain ⟨v, h1, h2⟩ := RpK.get (i := i) t (by simpa using e)
    exact ⟨v, by simpa using h1, h2⟩
theorem RpK.any {mg : Mg} {G : Hp} (k : Key) : ∀ {vs : List (Key × V)} {kvs : List (Key × D)}, RpK mg G vs kvs → (vs.any fun kv => decide (kv.1 = k)) = kvs.any fun kv => decide (kv.1 = k)
  | _, _, .nil => rfl
  | _, _, .cons _ t => by rw [List.any_cons, List.any_cons, t.any k]
theorem RpK.map {mg : Mg} {G : Hp} (k : Key) {v : V} {d : D} (r : Rp mg G v d) : ∀ {vs : List (Key × V)} {kvs : List (Key × D)}, RpK mg G vs kvs → RpK mg G (vs.map fun kv => if kv.1 = k then (kv.1, v) else kv) (kvs.map fun kv => if kv.1 = k then (kv.1, d) else kv)
  | _, _, .nil => .nil
  | (k2, _) :: _, _, .cons q t => by
    rw [List.map_cons, List.map_cons]
    by_cases h : k2 = k
    · simp only [h, if_true]; exact .cons r (t.map k r)
    · simp only [h, if_false]; exact .cons q (t.map k r)
theorem RpK.append {mg : Mg} {G : Hp} : ∀ {vs vs2 : List (Key × V)} {kvs kvs2 : List (Key × D)}, RpK mg G vs kvs → RpK mg G vs2 kvs2 → RpK mg G (vs ++ vs2) (kvs ++ kvs2)
  | _, _, _, _, .nil, s => s
  | _, _, _, _, .cons r t, s => .cons r (RpK.append t s)
theorem RpK.put {mg : Mg} {G : Hp} {k : Key} {v : V} {d : D} {vs : List (Key × V)} {kvs : List (Key × D)} (r : Rp mg G v d) (h : RpK mg G vs kvs) : RpK mg G (putK vs k v) (kvPut kvs k d) := by
  unfold putK kvPut
  rw [h.any k]
  split
  · exact h.map k r
  · exact h.append (.cons r .nil)
/-! ### as the library's data -/
mutual
def D.py : D → PyData
  | .non => .none
  | .bl b => .bool b
  | .int i => .int i
  | .str s => .str s
  | .tup xs => .tuple (pys xs)
  | .lst xs => .list (pys xs)
  | .scr ns => .list (ns.map .int)
  | .fn _ => .none
  | .dct _ => .none
def pys : List D → List PyData
  | [] => []
  | d :: r => d.py :: pys r
end
mutual
def okD : D → Bool
  | .fn _ => false
  | .dct _ => false
  | .tup xs => okDs xs
  | .lst xs => okDs xs
  | _ => true
def okDs : List D → Bool
  | [] => true
  | d :: r => okD d && okDs r
end
theorem pys_eq : ∀ xs : List D, pys xs = xs.map D.py
  | [] => rfl
  | d :: r => by unfold pys; rw [pys_eq r]; rfl
section
variable {mg : Mg} {G H : Hp} {K : PySem.W.Frag}
theorem dpInts : ∀ ns : List Int, DpAll K H (ns.map V.int) (ns.map PyData.int)
  | [] => .nil
  | _ :: r => .cons (.int _) (dpInts r)
mutual
theorem Rp.dp (s : Same G H) : ∀ {v : V} {d : D}, Rp mg G v d → okD d = true → Dp K H v d.py
  | _, .non, .non, _ => .non
  | _, .bl _, .bl _, _ => .bl _
  | _, .int _, .int _, _ => .int _
  | _, .str _, .str _, _ => .str _
  | _, .tup _, .tup e r, h => by unfold D.py; exact .tup (SqT.of (s _ _ e)) (RpA.dp s r (by unfold okD at h; exact h))
  | _, .lst _, .lst e r, h => by unfold D.py; exact .lst (SqL.of (s _ _ e)) (RpA.dp s r (by unfold okD at h; exact h))
  | _, .scr _, .scr e, _ => by unfold D.py; exact .lst (.inl (.inr ⟨_, s _ _ e⟩)) (dpInts _)
  | _, .fn _, .fn _, h => by cases h
  | _, .dct _, .dct _ _, h => by cases h
theorem RpA.dp (s : Same G H) : ∀ {vs : List V} {ds : List D}, RpA mg G vs ds → okDs ds = true → DpAll K H vs (pys ds)
  | _, [], .nil, _ => .nil
  | _, _ :: _, .cons r t, h => by
    unfold okDs at h
    obtain ⟨h1, h2⟩ := Bool.and_eq_true_iff.mp h
    exact .cons (r.dp s h1) (RpA.dp s t h2)
end
end
/-- may be compared -/
def chk (d : D) : Bool := okD d && SeqAt.shaped d.py
def eqvF (d e : D) : Option Bool := match d, e with
  | .int i, .int j => some (decide (i = j))
  | .str a, .str b => some (decide (a = b))
  | .bl a, .bl b => some (decide (a = b))
  | .non, .int _ => some false
  | .non, .str _ => some false
  | .non, .bl _ => some false
  | .int _, .non => some false
  | .str _, .non => some false
  | .bl _, .non => some false
  | .int _, .str _ => some false
  | .str _, .int _ => some false
  | .non, .non => some true
  | d, e => if (chk d && chk e) = true then some (PyData.eqv d.py e.py) else none
def eqF (d e : D) : Option D := (eqvF d e).map D.bl
def neF (d e : D) : Option D := (eqvF d e).map fun b => D.bl (!b)
section
variable {Φ : Fam}
theorem OpR.fam {f : Value → Value → Sem Value} {r : R2} (h : ∀ i, OpR (Φ.X i) f r) (i : Φ.ι) : OpR (Φ.X i) f r := h i
theorem opEq : OpOk Φ (compareOp .Eq) eqF := by
  refine ⟨_, fun i => OpR.or op_eq (r' := rEqD Φ.K) (by rw [← Φ.hK i]; exact op_eqD (by have := Φ.hu i; omega)), ?_⟩
  intro G H x y d e z Q s rx ry hz q
  unfold eqF at hz
  obtain ⟨b, e1, rfl⟩ := Option.map_eq_some_iff.mp hz
  have fin : ∀ c, b = c → Q (.bl c) H := fun c h => q G H _ (Ext.refl s) (by rw [h]; exact .bl _)
  unfold eqvF at e1
  split at e1
  · cases rx; cases ry; cases e1; exact .inl ⟨rfl, fin _ (by simp [V.int.injEq])⟩
  · cases rx; cases ry; cases e1; exact .inl ⟨rfl, fin _ (by simp [V.str.injEq])⟩
  · cases rx; cases ry; cases e1; exact .inl ⟨rfl, fin _ (by simp [V.bl.injEq])⟩
  · cases rx; cases ry; cases e1; exact .inl ⟨rfl, fin _ rfl⟩
  · cases rx; cases ry; cases e1; exact .inl ⟨rfl, fin _ rfl⟩
  · cases rx; cases ry; cases e1; exact .inl ⟨rfl, fin _ rfl⟩
  · cases rx; cases ry; cases e1; exact .inl ⟨rfl, fin _ rfl⟩
  · cases rx; cases ry; cases e1; exact .inl ⟨rfl, fin _ rfl⟩
  · cases rx; cases ry; cases e1; exact .inl ⟨rfl, fin _ rfl⟩
  · cases rx; cases ry; cases e1; exact .inl ⟨rfl, fin _ rfl⟩
  · cases rx; cases ry; cases e1; exact .inl ⟨rfl, fin _ rfl⟩
  · cases rx; cases ry; cases e1; exact .inl ⟨rfl, fin _ rfl⟩
  · split at e1
    · rename_i h
      obtain ⟨h1, h2⟩ := Bool.and_eq_true_iff.mp h
      obtain ⟨o1, p1⟩ := Bool.and_eq_true_iff.mp h1
      obtain ⟨o2, p2⟩ := Bool.and_eq_true_iff.mp h2
      cases e1
      exact .inr ⟨_, _, rx.dp s o1, ry.dp s o2, p1, p2, fin _ rfl⟩
    · cases e1
theorem opNe : OpOk Φ (compareOp .NotEq) neF := by
  refine ⟨_, fun i => OpR.or op_ne (r' := rNeD Φ.K) (by rw [← Φ.hK i]; exact op_neD (by have := Φ.hu i; omega)), ?_⟩
  intro G H x y d e z Q s rx ry hz q
  unfold neF at hz
  obtain ⟨b, e1, rfl⟩ := Option.map_eq_some_iff.mp hz
  have fin : ∀ c, b = c → Q (.bl (!c)) H := fun c h => q G H _ (Ext.refl s) (by rw [h]; exact .bl _)
  unfold eqvF at e1
  split at e1
  · cases rx; cases ry; cases e1; exact .inl ⟨rfl, fin _ (by simp [V.int.injEq])⟩
  · cases rx; cases ry; cases e1; exact .inl ⟨rfl, fin _ (by simp [V.str.injEq])⟩
  · cases rx; cases ry; cases e1; exact .inl ⟨rfl, fin _ (by simp [V.bl.injEq])⟩
  · cases rx; cases ry; cases e1; exact .inl ⟨rfl, fin _ rfl⟩
  · cases rx; cases ry; cases e1; exact .inl ⟨rfl, fin _ rfl⟩
  · cases rx; cases ry; cases e1; exact .inl ⟨rfl, fin _ rfl⟩
  · cases rx; cases ry; cases e1; exact .inl ⟨rfl, fin _ rfl⟩
  · cases rx; cases ry; cases e1; exact .inl ⟨rfl, fin _ rfl⟩
  · cases rx; cases ry; cases e1; exact .inl ⟨rfl, fin _ rfl⟩
  · cases rx; cases ry; cases e1; exact .inl ⟨rfl, fin _ rfl⟩
  · cases rx; cases ry; cases e1; exact .inl ⟨rfl, fin _ rfl⟩
  · cases rx; cases ry; cases e1; exact .inl ⟨rfl, fin _ rfl⟩
  · split at e1
    · rename_i h
      obtain ⟨h1, h2⟩ := Bool.and_eq_true_iff.mp h
      obtain ⟨o1, p1⟩ := Bool.and_eq_true_iff.mp h1
      obtain ⟨o2, p2⟩ := Bool.and_eq_true_iff.mp h2
      cases e1
      exact .inr ⟨_, _, rx.dp s o1, ry.dp s o2, p1, p2, fin _ rfl⟩
    · cases e1
/-! ### is None -/
def isNF (d e : D) : Option D := match e with
  | .non => some (.bl (match d with | .non => true | _ => false))
  | _ => none
def notNF (d e : D) : Option D := match e with
  | .non => some (.bl (match d with | .non => false | _ => true))
  | _ => none
theorem opIsN : OpOk Φ (compareOp .Is) isNF := by
  refine ⟨_, fun i => op_isN, ?_⟩
  intro G H x y d e z Q s rx ry hz q
  cases ry <;> first | (cases hz; done) | skip
  refine ⟨rfl, q G H _ (Ext.refl s) ?_⟩
  cases hz
  cases rx <;> exact .bl _
theorem opNotN : OpOk Φ (compareOp .IsNot) notNF := by
  refine ⟨_, fun i => op_notN, ?_⟩
  intro G H x y d e z Q s rx ry hz q
  cases ry <;> first | (cases hz; done) | skip
  refine ⟨rfl, q G H _ (Ext.refl s) ?_⟩
  cases hz
  cases rx <;> exact .bl _
/-! ### < and its kin: ints, texts -/
def ordF (pI : Int → Int → Bool) (pS : List Nat → List Nat → Bool) (d e : D) : Option D := match d, e with
  | .int i, .int j => some (.bl (pI i j))
  | .str a, .str b => some (.bl (pS a.cps.toList b.cps.toList))
  | _, _ => none
def ltF := ordF (fun i j => decide (i < j)) fun a b => decide (a < b)
def leF := ordF (fun i j => decide (i ≤ j)) fun a b => !decide (b < a)
def gtF := ordF (fun i j => decide (j < i)) fun a b => decide (b < a)
def geF := ordF (fun i j => decide (j ≤ i)) fun a b => !decide (a < b)
theorem ops_ord {mg : Mg} {pI : Int → Int → Bool} {pS : List Nat → List Nat → Bool} : OpS mg (fun x y H Q => rI0 (fun i j => V.bl (pI i j)) x y H Q ∨ ∃ i j, x = .str i ∧ y = .str j ∧ Q (.bl (pS i.cps.toList j.cps.toList)) H) (ordF pI pS) := by
  intro G H x y d e z Q s rx ry hz q
  unfold ordF at hz
  split at hz
  · cases rx; cases ry; cases hz; exact .inl ⟨_, _, rfl, rfl, q G H _ (Ext.refl s) (.bl _)⟩
  · cases rx; cases ry; cases hz; exact .inr ⟨_, _, rfl, rfl, q G H _ (Ext.refl s) (.bl _)⟩
  · cases hz
theorem opLt : OpOk Φ (compareOp .Lt) ltF := ⟨_, fun i => OpR.or op_lt op_lt_str, ops_ord⟩
theorem opLe : OpOk Φ (compareOp .LtE) leF := ⟨_, fun i => OpR.or op_le op_le_str, ops_ord⟩
theorem opGt : OpOk Φ (compareOp .Gt) gtF := ⟨_, fun i => OpR.or op_gt op_gt_str, ops_ord⟩
theorem opGe : OpOk Φ (compareOp .GtE) geF := ⟨_, fun i => OpR.or op_ge op_ge_str, ops_ord⟩
/-! ### arithmetic -/
def intF (C : Int → Int → Prop) [∀ i j, Decidable (C i j)] (g : Int → Int → Int) (d e : D) : Option D := match d, e with
  | .int i, .int j => if C i j then some (.int (g i j)) else none
  | _, _ => none
theorem ops_int {mg : Mg} {C : Int → Int → Prop} [∀ i j, Decidable (C i j)] {g : Int → Int → Int} {r : R2} (h : ∀ i j H Q, C i j → Q (.int (g i j)) H → r (.int i) (.int j) H Q) : OpS mg r (intF C g) := by
  intro G H x y d e z Q s rx ry hz q
  unfold intF at hz
  split at hz
  · split at hz
    · cases rx; cases ry; cases hz; exact h _ _ _ _ (by assumption) (q G H _ (Ext.refl s) (.int _))
    · cases hz
  · cases hz
def subF := intF (fun _ _ => True) fun i j => i - j
theorem opSub : OpOk Φ (binaryOp .Sub) subF := ⟨_, fun i => op_sub, ops_int fun i j H Q _ q => ⟨i, j, rfl, rfl, q⟩⟩
abbrev CM (i j : Int) : Prop := ((-(2 ^ 64) < i ∧ i < 2 ^ 64) ∨ (-(2 ^ 64) < j ∧ j < 2 ^ 64)) ∨ i.natAbs.log2 + j.natAbs.log2 < 1000000
def mulIF := intF CM fun i j => i * j
theorem opMulI : OpOk Φ (binaryOp .Mult) mulIF := ⟨_, fun i => OpR.or op_mul op_mulW, ops_int fun i j H Q c q => by
  rcases c with c | c
  · exact .inl ⟨i, j, rfl, rfl, c, q⟩
  · exact .inr ⟨i, j, rfl, rfl, c, q⟩⟩
def fdivF := intF (fun _ j => 0 < j ∧ j.natAbs.log2 < 9000) fun i j => i / j
theorem opFdiv : OpOk Φ (binaryOp .FloorDiv) fdivF := ⟨_, fun i => op_fdivW, ops_int fun i j H Q c q => ⟨i, j, rfl, rfl, c, q⟩⟩
def modF := intF (fun _ j => 0 < j) fun i j => i % j
theorem opMod : OpOk Φ (binaryOp .Mod) modF := ⟨_, fun i => op_mod, ops_int fun i j H Q c q => ⟨i, j, rfl, rfl, c, q⟩⟩
def powF := intF (fun i j => 0 ≤ j ∧ j ≤ 1000000 ∧ i.natAbs < 2 ^ 64) fun i j => i ^ j.toNat
theorem opPow : OpOk Φ (binaryOp .Pow) powF := ⟨_, fun i => op_pow, ops_int fun i j H Q c q => ⟨i, j, rfl, rfl, c, q⟩⟩
/-- + : ints, texts, tuples, lists (the new list stands still) -/
def addF (d e : D) : Option D := match d, e with
  | .int i, .int j => some (.int (i + j))
  | .str a, .str b => if a.length + b.length ≤ sizeLine then some (.str (a ++ b)) else none
  | .tup xs, .tup ys => if xs.length + ys.length ≤ sizeLine then some (.tup (xs ++ ys)) else none
  | .lst xs, .lst ys => if xs.length + ys.length ≤ sizeLine then some (.lst (xs ++ ys)) else none
  | _, _ => none
theorem opAdd : OpOk Φ (binaryOp .Add) addF := by
  refine ⟨_, fun i => OpR.or op_add (OpR.or op_add_str (OpR.or (r := rCatA Φ.K) (by rw [← Φ.hK i]; exact op_catA) op_cat)), ?_⟩
  intro G H x y d e z Q s rx ry hz q
  unfold addF at hz
  split at hz
  · cases rx; cases ry; cases hz; exact .inl ⟨_, _, rfl, rfl, q G H _ (Ext.refl s) (.int _)⟩
  · split at hz
    · cases rx; cases ry; cases hz; exact .inr (.inl ⟨_, _, rfl, rfl, by assumption, q G H _ (Ext.refl s) (.str _)⟩)
    · cases hz
  · rename_i xs ys
    split at hz
    · rename_i hl
      cases hz
      cases rx with
      | @tup a1 v1 _ e1 r1 =>
        cases ry with
        | @tup a2 v2 _ e2 r2 =>
          refine .inr (.inr (.inl ⟨_, _, _, _, rfl, rfl, SqT.of (s _ _ e1), SqT.of (s _ _ e2), by rw [r1.length, r2.length]; exact hl, fun h => ?_, fun _ h => ?_, fun _ _ p np => ?_⟩))
          · subst h
            cases r1
            exact q G H _ (Ext.refl s) (.tup e2 r2)
          · subst h
            cases r2
            rw [List.append_nil] at q
            exact q G H _ (Ext.refl s) (.tup e1 r1)
          · have xt := Ext.alloc s np (.tup (v1 ++ v2))
            exact q _ _ _ xt (.tup upd_same ((r1.append r2).mono xt.hG))
    · cases hz
  · split at hz
    · rename_i hl
      cases hz
      cases rx with
      | @lst a1 v1 _ e1 r1 =>
        cases ry with
        | @lst a2 v2 _ e2 r2 =>
          refine .inr (.inr (.inr ⟨_, _, _, _, rfl, rfl, s _ _ e1, s _ _ e2, by rw [r1.length, r2.length]; exact hl, fun p np => ?_⟩))
          have xt := Ext.alloc s np (.lst (v1 ++ v2))
          exact q _ _ _ xt (.lst upd_same ((r1.append r2).mono xt.hG))
    · cases hz
  · cases hz
end
end Fl
end

section
set_option Elab.async false
set_option linter.all false
set_option maxRecDepth 100000
set_option autoImplicit false
/-! Fl, part H: in, subscripts, slices, built-in calls, methods. -/
namespace Fl
open PySem PySem.Spec PyProof.Rows L2

/-! ### in -/
def inB (d e : D) : Option Bool := match d, e with
  | .str s, .str z => match s.cps.toList with
    | [c] => some (decide (c ∈ z.cps.toList))
    | _ => none
  | d, .lst xs => if (chk d && chk (.lst xs)) = true then some (xs.any fun z => PyData.eqv z.py d.py) else none
  | d, .tup xs => if (chk d && chk (.tup xs)) = true then some (xs.any fun z => PyData.eqv z.py d.py) else none
  | d, .dct kvs => (keyF d).map fun k => (kvD kvs k).isSome
  | _, _ => none
def rInK (neg : Bool) : R2 := fun x y H Q => ∃ (a : Addr) (kvs : List (Key × V)) (k : Key), y = .ref a ∧ Rd H a (.dK kvs) ∧ x = kV k ∧ Q (.bl (if neg = true then !(valV kvs k).isSome else (valV kvs k).isSome)) H
def inF (d e : D) : Option D := (inB d e).map D.bl
def notInF (d e : D) : Option D := (inB d e).map fun b => D.bl (!b)
def rInTD (K : PySem.W.Frag) (neg : Bool) : R2 := fun x y H Q => ∃ (d : PyData) (ds : List PyData), Dp K H x d ∧ Dp K H y (.tuple ds) ∧ SeqAt.shaped d = true ∧ SeqAt.shaped (.tuple ds) = true ∧ Q (.bl (if neg = true then !(ds.any fun z => PyData.eqv z d) else ds.any fun z => PyData.eqv z d)) H
section
variable {X : Cx}
theorem op_inTD (hu : X.A.units + 65 < cLine) : OpR X (compareOp .In) (rInTD X.K false) := by
  intro pins s σ H x y v u Q I rx ry h
  obtain ⟨d, ds, hd, he, sd, se, q⟩ := h
  obtain ⟨as, r1⟩ := Dp.reads I d x v hd rx
  obtain ⟨bs, r2⟩ := Dp.reads I (.tuple ds) y u he ry
  exact SeqAt.in_tuple_reads r2 r1 (SeqAt.canLay_of_shaped se) (SeqAt.canLay_of_shaped sd) (room_in_shaped sd hu) ⟨.bl _, H, I, rfl, q⟩
theorem op_notInTD (hu : X.A.units + 65 < cLine) : OpR X (compareOp .NotIn) (rInTD X.K true) := by
  intro pins s σ H x y v u Q I rx ry h
  obtain ⟨d, ds, hd, he, sd, se, q⟩ := h
  obtain ⟨as, r1⟩ := Dp.reads I d x v hd rx
  obtain ⟨bs, r2⟩ := Dp.reads I (.tuple ds) y u he ry
  exact SeqAt.notIn_tuple_reads r2 r1 (SeqAt.canLay_of_shaped se) (SeqAt.canLay_of_shaped sd) (room_in_shaped sd hu) ⟨.bl _, H, I, rfl, q⟩
theorem op_inK (hu : X.A.units + 65 < cLine) : OpR X (compareOp .In) (rInK false) := by
  intro pins s σ H x y v u Q I rx ry h
  obtain ⟨a, kvs, k, rfl, rd, rfl, q⟩ := h
  cases (show u = Value.ref a from ry)
  exact d_in (A := X.A) (E := X.xe) (by omega) I (.inl ⟨kvs, k, rd, rfl, rfl⟩) rx fun s' I' => ⟨.bl _, H, I', rfl, q⟩
theorem op_notInK (hu : X.A.units + 65 < cLine) : OpR X (compareOp .NotIn) (rInK true) := by
  intro pins s σ H x y v u Q I rx ry h
  obtain ⟨a, kvs, k, rfl, rd, rfl, q⟩ := h
  cases (show u = Value.ref a from ry)
  exact d_notIn (A := X.A) (E := X.xe) (by omega) I (.inl ⟨kvs, k, rd, rfl, rfl⟩) rx fun s' I' => ⟨.bl _, H, I', rfl, q⟩
/-- d[k] -/
def rIxK : R2 := fun x y H Q => ∃ (a : Addr) (kvs : List (Key × V)) (k : Key) (v : V), x = .ref a ∧ Rd H a (.dK kvs) ∧ y = kV k ∧ valV kvs k = some v ∧ Q v H
theorem ix_dict (hu : X.A.units + 65 < cLine) : IxR X rIxK := by
  intro value slice pins s σ H x y v u Q I rx ry h hs
  obtain ⟨a, kvs, k, z, rfl, rd, rfl, e, q⟩ := h
  cases (show v = Value.ref a from rx)
  have g : DGet H a (kV k) (some z) := .inl ⟨kvs, k, rd, rfl, e.symm⟩
  have hT := dict_typeIs I g
  unfold subscriptTail
  refine wpAny_bind ?_
  rw [getitemInPython_of_ne hT.not_modules]
  refine wpAny_bind (wpAny_specialOf hT PySem.F.slot_dict_getitem.lookup ?_)
  have fin : wpAny (model X.prog X.w) X.A (subscripted slice false (.ref a) u >>= fun r => letTemporaryGo value (.ref a) r >>= fun _ => pure r) (EP X pins σ Q) X.xe s := by
    rw [hs]
    refine wpAny_bind (wpAny_operating (d_getItem (A := X.A) (E := X.xe) (by omega) I g ry fun w' s3 I3 rw' => ?_))
    exact wpAny_bind (wpAny_letTemporaryGo (wpAny_pure ⟨z, H, I3, rw', q⟩))
  first
    | exact wpAny_pure fin
    | exact wpAny_bind (wpAny_pure fin)
    | exact fin
end
theorem str_one {s : Str} {c : Nat} (h : s.cps.toList = [c]) : s = ⟨#[c]⟩ := by
  cases s with
  | mk a =>
    have : a = #[c] := by
      have h : a.toList = [c] := h
      rw [← Array.toArray_toList (xs := a), h]
    rw [this]
theorem pys_eqv (xs : List D) (d : D) : (xs.any fun z => PyData.eqv z.py d.py) = (pys xs).any fun z => PyData.eqv z d.py := by rw [pys_eq, List.any_map]; rfl
section
variable {Φ : Fam}
theorem chk2 {d e : D} (h : (chk d && chk e) = true) : okD d = true ∧ SeqAt.shaped d.py = true ∧ okD e = true ∧ SeqAt.shaped e.py = true := by
  obtain ⟨h1, h2⟩ := Bool.and_eq_true_iff.mp h
  obtain ⟨o1, p1⟩ := Bool.and_eq_true_iff.mp h1
  obtain ⟨o2, p2⟩ := Bool.and_eq_true_iff.mp h2
  exact ⟨o1, p1, o2, p2⟩
theorem opIn : OpOk Φ (compareOp .In) inF := by
  refine ⟨_, fun i => OpR.or op_in_sign (OpR.or (r := rInD Φ.K) (by rw [← Φ.hK i]; exact op_inD (Φ.hu i)) (OpR.or (r := rInTD Φ.K false) (by rw [← Φ.hK i]; exact op_inTD (Φ.hu i)) (op_inK (Φ.hu i)))), ?_⟩
  intro G H x y d e z Q s rx ry hz q
  unfold inF at hz
  obtain ⟨b, e1, rfl⟩ := Option.map_eq_some_iff.mp hz
  have fin : ∀ c, b = c → Q (.bl c) H := fun c h => q G H _ (Ext.refl s) (by rw [h]; exact .bl _)
  unfold inB at e1
  split at e1
  · split at e1
    · rename_i c hc
      cases e1
      cases rx; cases ry
      exact .inl ⟨c, _, by rw [str_one hc], rfl, fin _ rfl⟩
    · cases e1
  · split at e1
    · rename_i h
      obtain ⟨o1, p1, o2, p2⟩ := chk2 h
      cases e1
      have f := fin _ (pys_eqv _ _)
      exact .inr (.inl ⟨_, _, rx.dp s o1, ry.dp s o2, p1, p2, f⟩)
    · cases e1
  · split at e1
    · rename_i h
      obtain ⟨o1, p1, o2, p2⟩ := chk2 h
      cases e1
      have f := fin _ (pys_eqv _ _)
      exact .inr (.inr (.inl ⟨_, _, rx.dp s o1, ry.dp s o2, p1, p2, f⟩))
    · cases e1
  · obtain ⟨k, ek, rfl⟩ := Option.map_eq_some_iff.mp e1
    cases ry with
    | dct e2 r2 =>
      refine .inr (.inr (.inr ⟨_, _, k, rfl, .inr ⟨_, s _ _ e2⟩, key_v rx ek, ?_⟩))
      rcases r2.val k with ⟨h1, h2⟩ | ⟨v, d2, h1, h2, _⟩
      · rw [h1]; exact fin _ (by rw [h2]; rfl)
      · rw [h1]; exact fin _ (by rw [h2]; rfl)
  · cases e1
theorem opNotIn : OpOk Φ (compareOp .NotIn) notInF := by
  refine ⟨_, fun i => OpR.or op_notIn_sign (OpR.or (r := rNotInD Φ.K) (by rw [← Φ.hK i]; exact op_notInD (Φ.hu i)) (OpR.or (r := rInTD Φ.K true) (by rw [← Φ.hK i]; exact op_notInTD (Φ.hu i)) (op_notInK (Φ.hu i)))), ?_⟩
  intro G H x y d e z Q s rx ry hz q
  unfold notInF at hz
  obtain ⟨b, e1, rfl⟩ := Option.map_eq_some_iff.mp hz
  have fin : ∀ c, b = c → Q (.bl (!c)) H := fun c h => q G H _ (Ext.refl s) (by rw [h]; exact .bl _)
  unfold inB at e1
  split at e1
  · split at e1
    · rename_i c hc
      cases e1
      cases rx; cases ry
      exact .inl ⟨c, _, by rw [str_one hc], rfl, fin _ rfl⟩
    · cases e1
  · split at e1
    · rename_i h
      obtain ⟨o1, p1, o2, p2⟩ := chk2 h
      cases e1
      have f := fin _ (pys_eqv _ _)
      exact .inr (.inl ⟨_, _, rx.dp s o1, ry.dp s o2, p1, p2, f⟩)
    · cases e1
  · split at e1
    · rename_i h
      obtain ⟨o1, p1, o2, p2⟩ := chk2 h
      cases e1
      have f := fin _ (pys_eqv _ _)
      exact .inr (.inr (.inl ⟨_, _, rx.dp s o1, ry.dp s o2, p1, p2, f⟩))
    · cases e1
  · obtain ⟨k, ek, rfl⟩ := Option.map_eq_some_iff.mp e1
    cases ry with
    | dct e2 r2 =>
      refine .inr (.inr (.inr ⟨_, _, k, rfl, .inr ⟨_, s _ _ e2⟩, key_v rx ek, ?_⟩))
      rcases r2.val k with ⟨h1, h2⟩ | ⟨v, d2, h1, h2, _⟩
      · rw [h1]; exact fin _ (by rw [h2])
      · rw [h1]; exact fin _ (by rw [h2])
  · cases e1
/-! ### x[i] -/
def ixF (d e : D) : Option D := match d, e with
  | .tup xs, .int i => atI xs i
  | .lst xs, .int i => atI xs i
  | .scr ns, .int i => (atI ns i).map D.int
  | .str z, .int i => if z.length ≤ sizeLine then (atI z.cps.toList i).map fun c => D.str ⟨#[c]⟩ else none
  | .dct kvs, e => (keyF e).bind (kvD kvs)
  | _, _ => none
theorem atI_rp {mg : Mg} {G : Hp} {vs : List V} {ds : List D} {i : Int} {d : D} (r : RpA mg G vs ds) (h : atI ds i = some d) : ∃ v, atI vs i = some v ∧ Rp mg G v d := by
  unfold atI at h ⊢
  obtain ⟨j, e1, e2⟩ := Option.bind_eq_some_iff.mp h
  obtain ⟨v, h1, h2⟩ := r.get e2
  refine ⟨v, ?_, h2⟩
  rw [r.length, e1]
  exact h1
theorem atI_map {α β : Type} {f : α → β} {xs : List α} {i : Int} : atI (xs.map f) i = (atI xs i).map f := by
  unfold atI
  rw [List.length_map]
  cases ixN xs.length i with
  | none => rfl
  | some j => simp
def rIxA (K : PySem.W.Frag) : R2 := fun x y H Q => rIx K x y H Q ∨ rIxK x y H Q
theorem ops_ix {mg : Mg} {K : PySem.W.Frag} : OpS mg (rIxA K) ixF := by
  intro G H x y d e z Q s rx ry hz q
  unfold ixF at hz
  split at hz
  · cases rx with
    | tup e1 r1 =>
      cases ry
      obtain ⟨v, h1, h2⟩ := atI_rp r1 hz
      exact .inl (.inr (.inl ⟨_, _, _, v, rfl, rfl, SqT.of (s _ _ e1), h1, q G H v (Ext.refl s) h2⟩))
  · cases rx with
    | lst e1 r1 =>
      cases ry
      obtain ⟨v, h1, h2⟩ := atI_rp r1 hz
      exact .inl (.inl ⟨_, _, _, v, rfl, rfl, SqL.of (s _ _ e1), h1, q G H v (Ext.refl s) h2⟩)
  · cases rx with
    | scr e1 =>
      cases ry
      obtain ⟨n, h1, rfl⟩ := Option.map_eq_some_iff.mp hz
      exact .inl (.inl ⟨_, _, _, .int n, rfl, rfl, .inl (.inr ⟨_, s _ _ e1⟩), by rw [atI_map, h1]; rfl, q G H _ (Ext.refl s) (.int _)⟩)
  · split at hz
    · rename_i hl
      cases rx
      cases ry
      obtain ⟨c, h1, rfl⟩ := Option.map_eq_some_iff.mp hz
      exact .inl (.inr (.inr ⟨_, _, c, rfl, rfl, hl, h1, q G H _ (Ext.refl s) (.str _)⟩))
    · cases hz
  · obtain ⟨k, ek, hv⟩ := Option.bind_eq_some_iff.mp hz
    cases rx with
    | dct e1 r1 =>
      rcases r1.val k with ⟨h1, h2⟩ | ⟨v, d2, h1, h2, h3⟩
      · rw [h2] at hv; cases hv
      · rw [h2] at hv
        cases hv
        exact .inr ⟨_, _, k, v, rfl, .inr ⟨_, s _ _ e1⟩, key_v ry ek, h1, q G H v (Ext.refl s) h3⟩
  · cases hz
theorem se_ix {a b : Expr} {pos : Pos} {ma mb : M D} (ha : SE Φ a ma) (hb : SE Φ b mb) (hs : PlainIx b := by exact fun _ _ => rfl) : SE Φ (.Subscript a b pos) (op2M ixF ma mb) := by
  obtain ⟨ta, pa, ha⟩ := ha
  obtain ⟨tb, pb, hb⟩ := hb
  exact ⟨tOp (rIxA Φ.K) ta tb, fun i => by rw [← Φ.hK i]; exact pe_ix (IxR.or ix_seq (ix_dict (Φ.hu i))) (pa i) (pb i) hs, he_op ops_ix ha hb⟩
/-- x[i], x an own list -/
def isO (ρ : Env) (j : Nat) : Bool := match ρ[j]? with
  | some (some (.o _ _)) => true
  | _ => false
def ixOM (j : Nat) (mb : M D) : M D := fun ρ => if isO ρ j = true then bindM mb (fun e ρ' => match ρ'[j]? with
  | some (some (.o _ ds)) => match ixF (.lst ds) e with
    | some d => .ok d ρ'
    | none => .no
  | _ => .no) ρ else .no
theorem isO_get {ρ : Env} {j : Nat} (h : isO ρ j = true) : ∃ f ds, ρ[j]? = some (some (.o f ds)) := by
  unfold isO at h
  split at h
  · exact ⟨_, _, by assumption⟩
  · cases h
theorem se_ixO {j : Nat} {x : Str} {b : Expr} {pos p2 : Pos} {mb : M D} (hN : Φ.N[j]? = some x) (hv : Vis Φ.sc x) (hb : SE Φ b mb) (hs : PlainIx b := by exact fun _ _ => rfl) (hd : (x == ("__debug__" : Str)) = false := by decide) (hcd : (x == ("__classdict__" : Str)) = false := by decide) :
    SE Φ (.Subscript (.Name x p2) b pos) (ixOM j mb) := by
  obtain ⟨tb, pb, hb⟩ := hb
  refine ⟨tOp (rIx Φ.K) (tVar j) tb, fun i => by rw [← Φ.hK i]; exact pe_ix ix_seq (pe_var (Φ.nx hN i) (Φ.vis hv i) hd hcd) (pb i) hs, fun F G ρ σ H Q R s => ?_⟩
  unfold ixOM at s
  split at s
  · rename_i ho
    obtain ⟨f, ds, e⟩ := isO_get ho
    obtain ⟨a, h1, h2, h3, _⟩ := R.own j _ e rfl
    refine ⟨_, h1, ?_⟩
    refine hb F G ρ σ H _ R (s.bind.imp (fun d ρ1 q G1 H1 y R1 s1 r => ?_) fun _ _ z => z)
    split at q
    · rename_i f1 ds1 e1
      obtain ⟨a1, g1, g2, ⟨xs, g3, g4⟩, _⟩ := R1.own j _ e1 rfl
      rw [h1] at g1
      cases g1
      split at q
      · rename_i d2 e2
        unfold ixF at e2
        cases r with
        | int k =>
          obtain ⟨v, k1, k2⟩ := atI_rp g4 e2
          exact .inl ⟨_, _, _, v, rfl, rfl, SqL.of g3, k1, q G1 H1 v R1 s1 k2⟩
        | _ => cases e2
      · exact q.elim
    · exact q.elim
  · exact s.elim
/-! ### slices -/
def partF : D → Option Int
  | .int i => some i
  | _ => none
def HP (mg : Mg) (W : WX) (t : TO) (m : M (Option Int)) : Prop := ∀ (F : Fr) (G : Hp) (ρ : Env) (σ : L2.St) (H : Hp) (Q : Option Int → Hp → Prop), Rel mg F G ρ σ H →
  Sat (m ρ) (fun o ρ' => ∀ G' H', Rel mg F G' ρ' σ H' → Same G G' → Q o H') (ExK mg W F) → t σ H Q
def SP (Φ : Fam) (e : Option Expr) (m : M (Option Int)) : Prop := ∃ t, (∀ i, PO (Φ.X i) e t) ∧ HP Φ.mg Φ.W t m
theorem sp_none : SP Φ none (pureM none) := ⟨_, fun _ => po_none, fun F G ρ σ H Q R s => s G H R Same.rfl⟩
theorem sp_some {e : Expr} {m : M D} (h : SE Φ e m) : SP Φ (some e) (bindM m fun d => optM ((partF d).map some)) := by
  obtain ⟨t, p, h⟩ := h
  refine ⟨_, fun i => po_some (p i), fun F G ρ σ H Q R s => ?_⟩
  refine h F G ρ σ H _ R (s.bind.imp (fun d ρ1 q G1 H1 v R1 s1 r => ?_) fun _ _ z => z)
  obtain ⟨o, e1, q⟩ := q.opt
  cases r with
  | int k => cases e1; exact ⟨k, rfl, q G1 H1 R1 s1⟩
  | _ => cases e1
def cutD (xs : List D) (lo hi : Option Int) : List D := (xs.drop (HT.sIx xs.length 0 lo)).take (HT.sIx xs.length xs.length hi - HT.sIx xs.length 0 lo)
def slF (d : D) (lo hi : Option Int) : Option D := match d with
  | .lst xs => some (.lst (cutD xs lo hi))
  | .tup xs => some (.tup (cutD xs lo hi))
  | .str z => if z.length ≤ sizeLine then some (.str (cutS z lo hi)) else none
  | _ => none
theorem cut_rp {mg : Mg} {G : Hp} {vs : List V} {ds : List D} (lo hi : Option Int) (r : RpA mg G vs ds) : RpA mg G (cutV vs lo hi) (cutD ds lo hi) := by
  unfold cutV cutD
  rw [r.length]
  exact (r.drop _).take _
def slM (f : D → Option Int → Option Int → Option D) (m : M D) (ml mh : M (Option Int)) : M D := bindM m fun d => bindM ml fun l => bindM mh fun h => optM (f d l h)
theorem sIx_full {α : Type} {xs : List α} {lo hi : Option Int} (h : HT.sIx xs.length 0 lo = 0 ∧ HT.sIx xs.length xs.length hi = xs.length) : (xs.drop (HT.sIx xs.length 0 lo)).take (HT.sIx xs.length xs.length hi - HT.sIx xs.length 0 lo) = xs := by
  rw [h.1, h.2]
  simp
theorem se_slice {e : Expr} {lo hi : Option Expr} {pos p2 : Pos} {m : M D} {ml mh : M (Option Int)} (h : SE Φ e m) (hl : SP Φ lo ml) (hh : SP Φ hi mh) : SE Φ (.Subscript e (.Slice lo hi none p2) pos) (slM slF m ml mh) := by
  obtain ⟨t, p, h⟩ := h
  obtain ⟨tl, pl, hl⟩ := hl
  obtain ⟨th, ph, hh⟩ := hh
  refine ⟨tSl (fun x lo hi H Q => rSlL Φ.K x lo hi H Q ∨ (rSlA Φ.K x lo hi H Q ∨ rSlS x lo hi H Q)) t tl th, fun i => by rw [← Φ.hK i]; exact pe_slice (SlR.or sl_list (SlR.or sl_tupA sl_str)) (p i) (pl i) (ph i), fun F G ρ σ H Q R s => ?_⟩
  refine h F G ρ σ H _ R (s.bind.imp (fun d ρ1 q G1 H1 v R1 s1 r => ?_) fun _ _ z => z)
  refine hl F G1 ρ1 σ H1 _ R1 (q.bind.imp (fun l ρ2 q G2 H2 R2 s2 => ?_) fun _ _ z => z)
  refine hh F G2 ρ2 σ H2 _ R2 (q.bind.imp (fun u ρ3 q G3 H3 R3 s3 => ?_) fun _ _ z => z)
  obtain ⟨z, e1, q⟩ := q.opt
  have r3 := r.mono (s2.trans s3)
  have s13 := s1.trans (s2.trans s3)
  unfold slF at e1
  split at e1
  · rename_i ds0
    cases e1
    cases r3 with
    | @lst a vs _ e2 ra =>
      refine .inl ⟨_, _, rfl, SqL.of (R3.sub _ _ e2), fun p np => ?_⟩
      have xt := Ext.alloc R3.sub np (.lst (cutV vs l u))
      exact q _ _ _ (R3.ext xt) (s13.trans xt.hG) (.lst upd_same ((cut_rp l u ra).mono xt.hG))
  · rename_i ds0
    cases e1
    cases r3 with
    | @tup a vs _ e2 ra =>
      refine .inr (.inl ⟨_, _, rfl, SqT.of (R3.sub _ _ e2), fun hf => ?_, fun _ p np => ?_⟩)
      · have hf' := hf
        rw [ra.length] at hf'
        have ec := sIx_full hf'
        unfold cutD at q
        rw [ec] at q
        exact q _ _ _ R3 s13 (.tup e2 ra)
      · have xt := Ext.alloc R3.sub np (.tup (cutV vs l u))
        exact q _ _ _ (R3.ext xt) (s13.trans xt.hG) (.tup upd_same ((cut_rp l u ra).mono xt.hG))
  · split at e1
    · rename_i hz
      cases e1
      cases r3
      exact .inr (.inr ⟨_, rfl, hz, q _ _ _ R3 s13 (.str _)⟩)
    · cases e1
  · cases e1
/-! ### built-in calls -/
def CallS (mg : Mg) (r : List V → Hp → VK → Prop) (f : List D → Option D) : Prop := ∀ (G H : Hp) (xs : List V) (ds : List D) (z : D) (Q : VK), Same G H → RpA mg G xs ds → f ds = some z → (∀ G' H' w, Ext G H G' H' → Rp mg G' w z → Q w H') → r xs H Q
def CallOk (Φ : Fam) (f : Value) (g : List D → Option D) : Prop := ∃ r, (∀ i, CallR (Φ.X i) f r) ∧ CallS Φ.mg r g
def callB (f : List D → Option D) (m : M (List D)) : M D := bindM m fun ds => optM (f ds)
theorem he_callB {mg : Mg} {W : WX} {r : List V → Hp → VK → Prop} {f : List D → Option D} {t : TA} {m : M (List D)} (c : CallS mg r f) (h : HA mg W t m) : HE mg W (tCB r t) (callB f m) := by
  intro F G ρ σ H Q R s
  refine h F G ρ σ H _ R (s.bind.imp (fun ds ρ1 q G1 H1 vs R1 s1 ra => ?_) fun _ _ z => z)
  obtain ⟨z, e1, q⟩ := q.opt
  exact c G1 H1 vs ds z Q R1.sub ra e1 fun G' H' w x rw_ => q G' H' w (R1.ext x) (s1.trans x.hG) rw_
theorem se_callB {x : Str} {p pos : Pos} {e : Expr} {es : List Expr} {m : M (List D)} {id : String} {f : List D → Option D} (c : CallOk Φ (.builtin id) f) (hg : Φ.sc.names.lookup x = some .globalImplicit) (hm : Φ.mg x = none) (hb : bootBuiltins x = some (.builtin id)) (h : SA Φ (e :: es) m)
    (hn : x ≠ "__name__" := by decide) (hd : (x == ("__debug__" : Str)) = false := by decide) (hst : ∀ env, starEach (e :: es) env = (false, eval e env) :: starEach es env := by intro _; first | rfl | with_unfolding_all rfl)
    (hs : ∀ pos env, (backTo pos (starEach es env)).any (fun x => x.1) = false := by intro _ _; first | rfl | with_unfolding_all rfl) : SE Φ (.Call (.Name x p) (e :: es) [] pos) (callB f m) := by
  obtain ⟨r, c1, c2⟩ := c
  obtain ⟨t, q, h⟩ := h
  exact ⟨tCB r t, fun i => pe_callB (c1 i) (Φ.gl hg i) (Φ.mgn hm i) hb (q i) hn hd (hst _) (hs _ _), he_callB c2 h⟩
theorem se_callTy {x : Str} {p pos : Pos} {e : Expr} {es : List Expr} {m : M (List D)} {id : String} {f : List D → Option D} (c : CallOk Φ (.type id) f) (hg : Φ.sc.names.lookup x = some .globalImplicit) (hm : Φ.mg x = none) (hb : bootBuiltins x = some (.type id)) (h : SA Φ (e :: es) m)
    (hn : x ≠ "__name__" := by decide) (hd : (x == ("__debug__" : Str)) = false := by decide) (hst : ∀ env, starEach (e :: es) env = (false, eval e env) :: starEach es env := by intro _; first | rfl | with_unfolding_all rfl)
    (hs : ∀ pos env, (backTo pos (starEach es env)).any (fun x => x.1) = false := by intro _ _; first | rfl | with_unfolding_all rfl) : SE Φ (.Call (.Name x p) (e :: es) [] pos) (callB f m) := by
  obtain ⟨r, c1, c2⟩ := c
  obtain ⟨t, q, h⟩ := h
  exact ⟨tCB r t, fun i => pe_callTy (c1 i) (Φ.gl hg i) (Φ.mgn hm i) hb (q i) hn hd (hst _) (hs _ _), he_callB c2 h⟩
theorem se_callG {x : Str} {p pos : Pos} {e : Expr} {es : List Expr} {m : M (List D)} {id : String} {f : List D → Option D} (c : CallOk Φ (.builtin id) f) (hg : Φ.sc.names.lookup x = some .globalImplicit) (hm : Φ.mg x = some (.builtin id)) (h : SA Φ (e :: es) m)
    (hd : (x == ("__debug__" : Str)) = false := by decide) (hst : ∀ env, starEach (e :: es) env = (false, eval e env) :: starEach es env := by intro _; first | rfl | with_unfolding_all rfl)
    (hs : ∀ pos env, (backTo pos (starEach es env)).any (fun x => x.1) = false := by intro _ _; first | rfl | with_unfolding_all rfl) : SE Φ (.Call (.Name x p) (e :: es) [] pos) (callB f m) := by
  obtain ⟨r, c1, c2⟩ := c
  obtain ⟨t, q, h⟩ := h
  exact ⟨tCB r t, fun i => pe_callBfun (c1 i) (Φ.gl hg i) (Φ.mgn hm i) (q i) hd (hst _) (hs _ _), he_callB c2 h⟩
def f1 (f : D → Option D) : List D → Option D
  | [d] => f d
  | _ => none
def f2 (f : D → D → Option D) : List D → Option D
  | [d, e] => f d e
  | _ => none
theorem CallR.or {X : Cx} {f : Value} {r r' : List V → Hp → VK → Prop} (h : CallR X f r) (h' : CallR X f r') : CallR X f fun xs H Q => r xs H Q ∨ r' xs H Q := fun pins s σ H xs us Q I v q => by
  rcases q with q | q
  · exact h pins s σ H xs us Q I v q
  · exact h' pins s σ H xs us Q I v q
/-- over trees that are lists or tuples -/
theorem SeqV.sq {K : PySem.W.Frag} {mg : Mg} {G H : Hp} {v : V} {k : SK} {ds : List D} (h : SeqV mg G H v k ds) : ∃ a xs, v = .ref a ∧ RpA mg G xs ds ∧ (SqL K H a xs ∨ SqT K H a xs) := by
  obtain ⟨a, xs, rfl, r, e⟩ := h
  refine ⟨a, xs, rfl, r, ?_⟩
  cases k with
  | l => exact .inl (SqL.of e)
  | t => exact .inr (SqT.of e)
  | s => obtain ⟨o, e⟩ := e; exact .inl (.inl (.inr ⟨o, e⟩))
def lenF (d : D) : Option D := match d with
  | .str z => if z.length ≤ sizeLine then some (.int z.length) else none
  | .dct kvs => some (.int kvs.length)
  | d => (seqF d).map fun q => .int q.2.length
theorem callLenD {X : Cx} : CallR X (.builtin "len") (fun xs H Q => ∃ (a : Addr) (kvs : List (Key × V)), xs = [.ref a] ∧ Rd H a (.dK kvs) ∧ Q (.int kvs.length) H) := by
  intro pins s σ H xs us Q I r h
  obtain ⟨a, kvs, rfl, rd, q⟩ := h
  rw [Vals.ref1 r]
  exact d_len (A := X.A) (E := X.xe) I rd fun t s' I' => ⟨.int kvs.length, H, I', ⟨t, rfl⟩, q⟩
theorem callLen : CallOk Φ (.builtin "len") (f1 lenF) := by
  refine ⟨fun xs H Q => (∃ p ys, xs = [.ref p] ∧ (SqL Φ.K H p ys ∨ SqT Φ.K H p ys) ∧ Q (.int ys.length) H) ∨ (∃ z, xs = [.str z] ∧ z.length ≤ sizeLine ∧ Q (.int z.length) H) ∨ (∃ (a : Addr) (kvs : List (Key × V)), xs = [.ref a] ∧ Rd H a (.dK kvs) ∧ Q (.int kvs.length) H), fun i => by rw [← Φ.hK i]; exact CallR.or call_len_seq (CallR.or call_len_str callLenD), ?_⟩
  intro G H xs ds z Q s ra hz q
  unfold f1 at hz
  split at hz
  · rename_i d
    cases ra with
    | cons r t =>
      cases t
      unfold lenF at hz
      split at hz
      · split at hz
        · cases hz; cases r; exact .inr (.inl ⟨_, rfl, by assumption, q G H _ (Ext.refl s) (.int _)⟩)
        · cases hz
      · cases hz
        cases r with
        | dct e2 r2 => exact .inr (.inr ⟨_, _, rfl, .inr ⟨_, s _ _ e2⟩, by rw [r2.len]; exact q G H _ (Ext.refl s) (.int _)⟩)
      · obtain ⟨⟨k, es⟩, e1, rfl⟩ := Option.map_eq_some_iff.mp hz
        obtain ⟨a, ys, rfl, rr, hs⟩ := (SeqV.of (k := k) (ds := es) s r (by cases d <;> first | exact e1 | cases e1)).sq (K := Φ.K)
        exact .inl ⟨a, ys, rfl, hs, by rw [rr.length]; exact q G H _ (Ext.refl s) (.int _)⟩
  · cases hz
def tupF1 (d : D) : Option D := match d with
  | .tup xs => some (.tup xs)
  | .lst xs => some (.tup xs)
  | _ => none
theorem callTuple : CallOk Φ (.type "tuple") (f1 tupF1) := by
  refine ⟨fun xs H Q => ∃ p ys, xs = [.ref p] ∧ ((SqL Φ.K H p ys ∧ ∀ l, H l = none → Q (.ref l) (upd H l (.tup ys))) ∨ (SqT Φ.K H p ys ∧ Q (.ref p) H)), fun i => by rw [← Φ.hK i]; exact call_tuple_of, ?_⟩
  intro G H xs ds z Q s ra hz q
  unfold f1 at hz
  split at hz
  · rename_i d
    cases ra with
    | cons r t =>
      cases t
      unfold tupF1 at hz
      split at hz
      · cases hz
        cases r with
        | tup e1 r1 => exact ⟨_, _, rfl, .inr ⟨SqT.of (s _ _ e1), q G H _ (Ext.refl s) (.tup e1 r1)⟩⟩
      · cases hz
        cases r with
        | @lst a vs _ e1 r1 =>
          refine ⟨_, _, rfl, .inl ⟨SqL.of (s _ _ e1), fun l nl => ?_⟩⟩
          have xt := Ext.alloc s nl (.tup vs)
          exact q _ _ _ xt (.tup upd_same (r1.mono xt.hG))
      · cases hz
  · cases hz
def intF1 (d : D) : Option D := match d with
  | .int i => some (.int i)
  | .bl b => some (.int (if b = true then 1 else 0))
  | .str a => if a.length ≤ 640 then (PySem.intText? a).map D.int else none
  | _ => none
theorem callInt : CallOk Φ (.type "int") (f1 intF1) := by
  refine ⟨_, fun i => CallR.or call_int1 call_int_str, ?_⟩
  intro G H xs ds z Q s ra hz q
  unfold f1 at hz
  split at hz
  · rename_i d
    cases ra with
    | cons r t =>
      cases t
      unfold intF1 at hz
      split at hz
      · cases hz; cases r; exact .inl (.inl ⟨_, rfl, q G H _ (Ext.refl s) (.int _)⟩)
      · cases hz; cases r; exact .inl (.inr ⟨_, rfl, q G H _ (Ext.refl s) (.int _)⟩)
      · split at hz
        · obtain ⟨n, e1, rfl⟩ := Option.map_eq_some_iff.mp hz
          cases r
          exact .inr ⟨_, n, rfl, e1, by assumption, q G H _ (Ext.refl s) (.int _)⟩
        · cases hz
      · cases hz
  · cases hz
def strF1 (d : D) : Option D := match d with
  | .int i => if i.natAbs.log2 < 1920 then some (.str (toString i : String)) else none
  | .str a => some (.str a)
  | _ => none
theorem callStr : CallOk Φ (.type "str") (f1 strF1) := by
  refine ⟨_, fun i => CallR.or call_str_int SkE.call_str_str, ?_⟩
  intro G H xs ds z Q s ra hz q
  unfold f1 at hz
  split at hz
  · rename_i d
    cases ra with
    | cons r t =>
      cases t
      unfold strF1 at hz
      split at hz
      · split at hz
        · cases hz; cases r; exact .inl ⟨_, rfl, by assumption, q G H _ (Ext.refl s) (.str _)⟩
        · cases hz
      · cases hz; cases r; exact .inr ⟨_, rfl, q G H _ (Ext.refl s) (.str _)⟩
      · cases hz
  · cases hz
def absF (d : D) : Option D := match d with
  | .int i => some (.int (if i < 0 then -i else i))
  | _ => none
theorem callAbs : CallOk Φ (.builtin "abs") (f1 absF) := by
  refine ⟨_, fun i => call_abs, ?_⟩
  intro G H xs ds z Q s ra hz q
  unfold f1 at hz
  split at hz
  · rename_i d
    cases ra with
    | cons r t =>
      cases t
      unfold absF at hz
      split at hz
      · cases hz; cases r; exact ⟨_, rfl, q G H _ (Ext.refl s) (.int _)⟩
      · cases hz
  · cases hz
def i2F (g : Int → Int → Int) (d e : D) : Option D := match d, e with
  | .int i, .int j => some (.int (g i j))
  | _, _ => none
theorem callS_i2 {mg : Mg} {g : Int → Int → Int} : CallS mg (fun xs H Q => ∃ i j, xs = [.int i, .int j] ∧ Q (.int (g i j)) H) (f2 (i2F g)) := by
  intro G H xs ds z Q s ra hz q
  unfold f2 at hz
  split at hz
  · rename_i d e
    cases ra with
    | cons r t =>
      cases t with
      | cons r2 t =>
        cases t
        unfold i2F at hz
        split at hz
        · cases hz; cases r; cases r2; exact ⟨_, _, rfl, q G H _ (Ext.refl s) (.int _)⟩
        · cases hz
  · cases hz
theorem callGcd : CallOk Φ (.builtin "math.gcd") (f2 (i2F fun a b => ((Nat.gcd a.natAbs b.natAbs : Nat) : Int))) := ⟨_, fun i => cr_gcd, callS_i2⟩
theorem callMax2 (hc : Φ.cal = true := by rfl) : CallOk Φ (.builtin "max") (f2 (i2F fun i j => if j > i then j else i)) := ⟨_, fun i => call_max2 (Φ.calm hc i), callS_i2⟩
theorem callMin2 (hc : Φ.cal = true := by rfl) : CallOk Φ (.builtin "min") (f2 (i2F fun i j => if j < i then j else i)) := ⟨_, fun i => call_min2 (Φ.calm hc i), callS_i2⟩
/-- -x -/
def negF (d : D) : Option D := match d with
  | .int i => some (.int (-i))
  | _ => none
theorem se_neg {a : Expr} {pos : Pos} {ma : M D} (ha : SE Φ a ma) : SE Φ (.UnaryOp .USub a pos) (bindM ma fun d => optM (negF d)) := by
  obtain ⟨t, p, h⟩ := ha
  refine ⟨_, fun i => pe_un un_neg (p i), fun F G ρ σ H Q R s => ?_⟩
  refine h F G ρ σ H _ R (s.bind.imp (fun d ρ1 q G1 H1 v R1 s1 r => ?_) fun _ _ z => z)
  obtain ⟨z, e1, q⟩ := q.opt
  cases r with
  | int k => cases e1; exact ⟨_, rfl, q _ _ _ R1 s1 (.int _)⟩
  | _ => cases e1
end
end Fl
end

section
set_option Elab.async false
set_option linter.all false
set_option maxRecDepth 100000
set_option autoImplicit false
/-! Fl, part I: lists read at once, new lists, changes of own lists, isinstance, texts. -/
namespace Fl
open PySem PySem.Spec PyProof.Rows L2

/-! ### a built-in over one list or tuple -/
def CallQ (mg : Mg) (r : List V → Hp → VK → Prop) (f : SK → List D → Option D) : Prop := ∀ (G H : Hp) (v : V) (k : SK) (ds : List D) (z : D) (Q : VK), Same G H → SeqV mg G H v k ds → f k ds = some z → (∀ G' H' w, Ext G H G' H' → Rp mg G' w z → Q w H') → r [v] H Q
/-- .. that gives a new list -/
def CallN (mg : Mg) (r : List V → Hp → VK → Prop) (f : SK → List D → Option (List D)) : Prop := ∀ (G H : Hp) (v : V) (k : SK) (ds z : List D) (Q : VK), Same G H → SeqV mg G H v k ds → f k ds = some z → (∀ p xs, H p = none → RpA mg G xs z → Q (.ref p) (upd H p (.lst xs))) → r [v] H Q
def qM (f : SK → List D → Option D) (m : M (SK × List D)) : M D := bindM m fun q => optM (f q.1 q.2)
def qN (f : SK → List D → Option (List D)) (m : M (SK × List D)) : M Dv := bindM m fun q => optM ((f q.1 q.2).map fun z => Dv.o false z)
section
variable {Φ : Fam}
theorem pa1 {X : Cx} {e : Expr} {t : TE} (h : PE X e t) (hst : ∀ env, starEach [e] env = (false, eval e env) :: starEach [] env) : PA X [e] (tCons t tNil) := pa_cons h pa_nil (hst _)
theorem se_callQ {x : Str} {p pos : Pos} {e : Expr} {m : M (SK × List D)} {u : Value} {f : SK → List D → Option D} {r : List V → Hp → VK → Prop} (c1 : ∀ i (t : TA), PA (Φ.X i) [e] t → PE (Φ.X i) (.Call (.Name x p) [e] [] pos) (tCB r t)) (c2 : CallQ Φ.mg r f) (h : SQ Φ e m)
    (hst : ∀ env, starEach [e] env = (false, eval e env) :: starEach [] env := by intro _; first | rfl | with_unfolding_all rfl) : SE Φ (.Call (.Name x p) [e] [] pos) (qM f m) := by
  obtain ⟨t, q, h⟩ := h
  refine ⟨tCB r (tCons t tNil), fun i => c1 i _ (pa1 (q i) hst), fun F G ρ σ H Q R s => ?_⟩
  refine h F G ρ σ H _ R (s.bind.imp (fun y ρ1 q G1 H1 v R1 s1 sv => ?_) fun _ _ z => z)
  obtain ⟨z, e1, q⟩ := q.opt
  exact c2 G1 H1 v _ _ z Q R1.sub sv e1 fun G' H' w x rw_ => q G' H' w (R1.ext x) (s1.trans x.hG) rw_
theorem so_callQ {x : Str} {p pos : Pos} {e : Expr} {m : M (SK × List D)} {u : Value} {f : SK → List D → Option (List D)} {r : List V → Hp → VK → Prop} (c1 : ∀ i (t : TA), PA (Φ.X i) [e] t → PE (Φ.X i) (.Call (.Name x p) [e] [] pos) (tCB r t)) (c2 : CallN Φ.mg r f) (h : SQ Φ e m)
    (hst : ∀ env, starEach [e] env = (false, eval e env) :: starEach [] env := by intro _; first | rfl | with_unfolding_all rfl) : SO Φ (.Call (.Name x p) [e] [] pos) (qN f m) := by
  obtain ⟨t, q, h⟩ := h
  refine ⟨tCB r (tCons t tNil), fun i => c1 i _ (pa1 (q i) hst), fun F G ρ σ H Q R s => ?_⟩
  refine h F G ρ σ H _ R (s.bind.imp (fun y ρ1 q G1 H1 v R1 s1 sv => ?_) fun _ _ z => z)
  obtain ⟨w, e1, q⟩ := q.opt
  obtain ⟨z, e2, rfl⟩ := Option.map_eq_some_iff.mp e1
  refine c2 G1 H1 v _ _ z Q R1.sub sv e2 fun a xs na ra => ?_
  obtain ⟨R2, N⟩ := R1.new na (w := .o false z) (o := .lst xs) rfl rfl ⟨xs, upd_same, ra⟩
  exact q _ _ _ R2 s1 N
end
/-- a built-in by its name, for se_callQ, so_callQ -/
theorem byB {Φ : Fam} {x : Str} {p pos : Pos} {e : Expr} {id : String} {r : List V → Hp → VK → Prop} (c : ∀ i, CallR (Φ.X i) (.builtin id) r) (hg : Φ.sc.names.lookup x = some .globalImplicit) (hm : Φ.mg x = none) (hb : bootBuiltins x = some (.builtin id)) (hn : x ≠ "__name__" := by decide) (hd : (x == ("__debug__" : Str)) = false := by decide)
    (hst : ∀ env, starEach [e] env = (false, eval e env) :: starEach [] env := by intro _; first | rfl | with_unfolding_all rfl) : ∀ i (t : TA), PA (Φ.X i) [e] t → PE (Φ.X i) (.Call (.Name x p) [e] [] pos) (tCB r t) :=
  fun i t h => pe_callB (c i) (Φ.gl hg i) (Φ.mgn hm i) hb h hn hd (hst _) rfl
theorem byT {Φ : Fam} {x : Str} {p pos : Pos} {e : Expr} {id : String} {r : List V → Hp → VK → Prop} (c : ∀ i, CallR (Φ.X i) (.type id) r) (hg : Φ.sc.names.lookup x = some .globalImplicit) (hm : Φ.mg x = none) (hb : bootBuiltins x = some (.type id)) (hn : x ≠ "__name__" := by decide) (hd : (x == ("__debug__" : Str)) = false := by decide)
    (hst : ∀ env, starEach [e] env = (false, eval e env) :: starEach [] env := by intro _; first | rfl | with_unfolding_all rfl) : ∀ i (t : TA), PA (Φ.X i) [e] t → PE (Φ.X i) (.Call (.Name x p) [e] [] pos) (tCB r t) :=
  fun i t h => pe_callTy (c i) (Φ.gl hg i) (Φ.mgn hm i) hb h hn hd (hst _) rfl
def rLenQ (K : PySem.W.Frag) : List V → Hp → VK → Prop := fun xs H Q => ∃ p ys, xs = [.ref p] ∧ (SqL K H p ys ∨ SqT K H p ys) ∧ Q (.int ys.length) H
def rTupQ (K : PySem.W.Frag) : List V → Hp → VK → Prop := fun xs H Q => ∃ p ys, xs = [.ref p] ∧ ((SqL K H p ys ∧ ∀ l, H l = none → Q (.ref l) (upd H l (.tup ys))) ∨ (SqT K H p ys ∧ Q (.ref p) H))
def rLstQ (K : PySem.W.Frag) : List V → Hp → VK → Prop := fun xs H Q => ∃ p ys, xs = [.ref p] ∧ (SqL K H p ys ∨ SqT K H p ys) ∧ ∀ l, H l = none → Q (.ref l) (upd H l (.lst ys))
section
variable {Φ : Fam} {mg : Mg} {K : PySem.W.Frag}
theorem qLen : CallQ mg (rLenQ K) (fun _ ds => some (.int ds.length)) := by
  intro G H v k ds z Q s sv e q
  cases e
  obtain ⟨a, xs, rfl, r, hs⟩ := sv.sq (K := K)
  exact ⟨a, xs, rfl, hs, by rw [r.length]; exact q G H _ (Ext.refl s) (.int _)⟩
theorem cLenQ (i : Φ.ι) : CallR (Φ.X i) (.builtin "len") (rLenQ Φ.K) := by rw [← Φ.hK i]; exact call_len_seq
theorem qTup : CallQ mg (rTupQ K) (fun k ds => match k with | .l => some (.tup ds) | _ => none) := by
  intro G H v k ds z Q s sv e q
  cases k with
  | l =>
    cases e
    obtain ⟨a, xs, rfl, r, e1⟩ := sv
    refine ⟨a, xs, rfl, .inl ⟨SqL.of e1, fun l nl => ?_⟩⟩
    have xt := Ext.alloc s nl (.tup xs)
    exact q _ _ _ xt (.tup upd_same (r.mono xt.hG))
  | t => cases e
  | s => cases e
theorem cTupQ (i : Φ.ι) : CallR (Φ.X i) (.type "tuple") (rTupQ Φ.K) := by rw [← Φ.hK i]; exact call_tuple_of
theorem qLst : CallN mg (rLstQ K) (fun _ ds => some ds) := by
  intro G H v k ds z Q s sv e q
  cases e
  obtain ⟨a, xs, rfl, r, hs⟩ := sv.sq (K := K)
  exact ⟨a, xs, rfl, hs, fun l nl => q l xs nl r⟩
theorem cLstQ (i : Φ.ι) : CallR (Φ.X i) (.type "list") (rLstQ Φ.K) := by rw [← Φ.hK i]; exact call_list_of
/-! sum, min, max of ints -/
def intsOf : List D → Option (List Int)
  | [] => some []
  | .int i :: r => (intsOf r).map (i :: ·)
  | _ => none
theorem intsOf_map : ∀ {ds : List D} {ns : List Int}, intsOf ds = some ns → ds = ns.map D.int
  | [], _, h => by cases h; rfl
  | .int i :: r, _, h => by
    unfold intsOf at h
    obtain ⟨ns, e1, rfl⟩ := Option.map_eq_some_iff.mp h
    rw [intsOf_map e1]; rfl
  | .non :: _, _, h => by cases h
  | .bl _ :: _, _, h => by cases h
  | .str _ :: _, _, h => by cases h
  | .tup _ :: _, _, h => by cases h
  | .lst _ :: _, _, h => by cases h
  | .scr _ :: _, _, h => by cases h
  | .fn _ :: _, _, h => by cases h
theorem intsOf_ints : ∀ ns : List Int, intsOf (ns.map D.int) = some ns
  | [] => rfl
  | n :: r => by show (intsOf (r.map D.int)).map (n :: ·) = _; rw [intsOf_ints r]; rfl
def rSumA (K : PySem.W.Frag) : List V → Hp → VK → Prop := fun vs H Q => ∃ (a : Addr) (ns : List Int), vs = [V.ref a] ∧ (SqL K H a (ns.map V.int) ∨ SqT K H a (ns.map V.int)) ∧ Q (.int ns.sum) H
def sumQ (k : SK) (ds : List D) : Option D := match k with
  | .t => none
  | _ => (intsOf ds).map fun ns => .int ns.sum
theorem qSum : CallQ mg (rSum K) sumQ := by
  intro G H v k ds z Q s sv e q
  have h : ∃ ns, intsOf ds = some ns ∧ z = .int ns.sum ∧ k ≠ .t := by
    cases k with
    | l => obtain ⟨ns, e1, rfl⟩ := Option.map_eq_some_iff.mp e; exact ⟨ns, e1, rfl, by simp⟩
    | s => obtain ⟨ns, e1, rfl⟩ := Option.map_eq_some_iff.mp e; exact ⟨ns, e1, rfl, by simp⟩
    | t => cases e
  obtain ⟨ns, e1, rfl, hk⟩ := h
  obtain ⟨a, xs, rfl, r, e2⟩ := sv
  rw [intsOf_map e1] at r
  have ex := r.ints
  subst ex
  refine ⟨a, ns, rfl, ?_, q G H _ (Ext.refl s) (.int _)⟩
  cases k with
  | l => exact SqL.of e2
  | s => obtain ⟨o, e2⟩ := e2; exact .inl (.inr ⟨o, e2⟩)
  | t => exact absurd rfl hk
theorem cSumQ (hc : Φ.cal = true) (i : Φ.ι) : CallR (Φ.X i) (.builtin "sum") (rSum Φ.K) := by rw [← Φ.hK i]; exact cr_sum (Φ.calm hc i)
def maxL : List Int → Int
  | [] => 0
  | [x] => x
  | x :: y :: r => max x (maxL (y :: r))
def minL : List Int → Int
  | [] => 0
  | [x] => x
  | x :: y :: r => min x (minL (y :: r))
theorem maxL_is : ∀ (ns : List Int), ns ≠ [] → maxL ns ∈ ns ∧ ∀ y ∈ ns, y ≤ maxL ns
  | [], h => absurd rfl h
  | [x], _ => ⟨List.mem_cons_self .., fun y hy => by simp at hy; subst hy; exact Int.le_refl _⟩
  | x :: y :: r, _ => by
    obtain ⟨h1, h2⟩ := maxL_is (y :: r) (by simp)
    unfold maxL
    refine ⟨?_, fun z hz => ?_⟩
    · by_cases q : x ≤ maxL (y :: r)
      · rw [Int.max_eq_right q]; exact List.mem_cons_of_mem _ h1
      · rw [Int.max_eq_left (by omega)]; exact List.mem_cons_self ..
    · rcases List.mem_cons.mp hz with e | e
      · subst e; exact Int.le_max_left ..
      · exact Int.le_trans (h2 z e) (Int.le_max_right ..)
theorem minL_is : ∀ (ns : List Int), ns ≠ [] → minL ns ∈ ns ∧ ∀ y ∈ ns, minL ns ≤ y
  | [], h => absurd rfl h
  | [x], _ => ⟨List.mem_cons_self .., fun y hy => by simp at hy; subst hy; exact Int.le_refl _⟩
  | x :: y :: r, _ => by
    obtain ⟨h1, h2⟩ := minL_is (y :: r) (by simp)
    unfold minL
    refine ⟨?_, fun z hz => ?_⟩
    · by_cases q : x ≤ minL (y :: r)
      · rw [Int.min_eq_left q]; exact List.mem_cons_self ..
      · rw [Int.min_eq_right (by omega)]; exact List.mem_cons_of_mem _ h1
    · rcases List.mem_cons.mp hz with e | e
      · subst e; exact Int.min_le_left ..
      · exact Int.le_trans (Int.min_le_right ..) (h2 z e)
def maxQ (k : SK) (ds : List D) : Option D := match k, ds with
  | .t, _ => none
  | _, [] => none
  | _, d :: r => (intsOf (d :: r)).map fun ns => .int (maxL ns)
def minQ (k : SK) (ds : List D) : Option D := match k, ds with
  | .t, _ => none
  | _, [] => none
  | _, d :: r => (intsOf (d :: r)).map fun ns => .int (minL ns)
theorem sq_ints {G H : Hp} {v : V} {k : SK} {ds : List D} {ns : List Int} (sv : SeqV mg G H v k ds) (e : intsOf ds = some ns) (hk : k ≠ .t) : ∃ a, v = .ref a ∧ SqL K H a (ns.map V.int) := by
  obtain ⟨a, xs, rfl, r, e2⟩ := sv
  rw [intsOf_map e] at r
  have ex := r.ints
  subst ex
  refine ⟨a, rfl, ?_⟩
  cases k with
  | l => exact SqL.of e2
  | s => obtain ⟨o, e2⟩ := e2; exact .inl (.inr ⟨o, e2⟩)
  | t => exact absurd rfl hk
theorem qMax : CallQ mg (rMax K) maxQ := by
  intro G H v k ds z Q s sv e q
  have h : ∃ ns, intsOf ds = some ns ∧ z = .int (maxL ns) ∧ k ≠ .t ∧ ns ≠ [] := by
    cases ds with
    | nil => cases k <;> cases e
    | cons d r =>
      cases k with
      | t => cases e
      | l => obtain ⟨ns, e1, rfl⟩ := Option.map_eq_some_iff.mp e; exact ⟨ns, e1, rfl, by simp, fun z => by subst z; have := intsOf_map e1; cases this⟩
      | s => obtain ⟨ns, e1, rfl⟩ := Option.map_eq_some_iff.mp e; exact ⟨ns, e1, rfl, by simp, fun z => by subst z; have := intsOf_map e1; cases this⟩
  obtain ⟨ns, e1, rfl, hk, hn⟩ := h
  obtain ⟨a, rfl, hs⟩ := sq_ints (K := K) sv e1 hk
  obtain ⟨m1, m2⟩ := maxL_is ns hn
  refine ⟨a, ns, rfl, hs, by cases ns with | nil => exact absurd rfl hn | cons _ _ => simp, fun m h1 h2 => ?_⟩
  have em : m = maxL ns := Int.le_antisymm (m2 m h1) (h2 _ m1)
  rw [em]
  exact q G H _ (Ext.refl s) (.int _)
theorem qMin : CallQ mg (rMin K) minQ := by
  intro G H v k ds z Q s sv e q
  have h : ∃ ns, intsOf ds = some ns ∧ z = .int (minL ns) ∧ k ≠ .t ∧ ns ≠ [] := by
    cases ds with
    | nil => cases k <;> cases e
    | cons d r =>
      cases k with
      | t => cases e
      | l => obtain ⟨ns, e1, rfl⟩ := Option.map_eq_some_iff.mp e; exact ⟨ns, e1, rfl, by simp, fun z => by subst z; have := intsOf_map e1; cases this⟩
      | s => obtain ⟨ns, e1, rfl⟩ := Option.map_eq_some_iff.mp e; exact ⟨ns, e1, rfl, by simp, fun z => by subst z; have := intsOf_map e1; cases this⟩
  obtain ⟨ns, e1, rfl, hk, hn⟩ := h
  obtain ⟨a, rfl, hs⟩ := sq_ints (K := K) sv e1 hk
  obtain ⟨m1, m2⟩ := minL_is ns hn
  refine ⟨a, ns, rfl, hs, by cases ns with | nil => exact absurd rfl hn | cons _ _ => simp, fun m h1 h2 => ?_⟩
  have em : m = minL ns := Int.le_antisymm (h2 _ m1) (m2 m h1)
  rw [em]
  exact q G H _ (Ext.refl s) (.int _)
theorem cMaxQ (hc : Φ.cal = true) (i : Φ.ι) : CallR (Φ.X i) (.builtin "max") (rMax Φ.K) := by rw [← Φ.hK i]; exact cr_max (Φ.calm hc i)
theorem cMinQ (hc : Φ.cal = true) (i : Φ.ι) : CallR (Φ.X i) (.builtin "min") (rMin Φ.K) := by rw [← Φ.hK i]; exact cr_min (Φ.calm hc i)
end
/-! ### sorted -/
open PySem.W in
def sortOk (ds : List D) : Bool := okDs ds && (ds.all fun d => ds.all fun e => alike d.py e.py) && ((ds.all fun d => match d with | .tup (_ :: _) => true | _ => false) || ds.all fun d => match d with | .tup _ => false | .non => false | .fn _ => false | .dct _ => false | _ => true) && decide (ds.length ≤ sizeLine) && ds.all fun d => decide (d.py.depth ≤ 64)
def sortD (ds : List D) : List D := ds.mergeSort (PySem.W.dataLe false D.py)
def sortQ (k : SK) (ds : List D) : Option (List D) := if sortOk ds = true then some (sortD ds) else none
def rSortQ (K : PySem.W.Frag) : List V → Hp → VK → Prop := fun vs H Q => ∃ (a : Addr) (xs : List V) (ds : List D), vs = [V.ref a] ∧ (SqL K H a xs ∨ SqT K H a xs) ∧ sortOk ds = true ∧ DpAll K H xs (pys ds) ∧ xs.length = ds.length ∧
  ∀ (ys : List V) (p : Addr), (∀ (j : Nat) y d, ys[j]? = some y → (sortD ds)[j]? = some d → ∃ i : Nat, xs[i]? = some y ∧ ds[i]? = some d) → ys.length = ds.length → H p = none → Q (.ref p) (upd H p (.lst ys))
section
open PySem.W
theorem each_of : ∀ {α β : Type} {R : α → β → Prop} {xs : List α} {ys : List β}, xs.length = ys.length → (∀ (i : Nat) x y, xs[i]? = some x → ys[i]? = some y → R x y) → EachIs R xs ys
  | _, _, _, [], [], _, _ => .nil
  | _, _, _, [], _ :: _, h, _ => by cases h
  | _, _, _, _ :: _, [], h, _ => by cases h
  | _, _, R, x :: xs, y :: ys, h, q => .cons (q 0 x y rfl rfl) (each_of (by simpa using h) fun i a b h1 h2 => q (i + 1) a b (by simpa using h1) (by simpa using h2))
theorem each_vals {xs : List V} {ds : List D} {its : List Value} (rv : Vals xs its) : ∀ {out : List Value} {zs : List D}, EachIs (fun u d => ∃ i : Nat, its[i]? = some u ∧ ds[i]? = some d) out zs → xs.length = ds.length →
    ∃ ys, Vals ys out ∧ ∀ (j : Nat) y d, ys[j]? = some y → zs[j]? = some d → ∃ i : Nat, xs[i]? = some y ∧ ds[i]? = some d
  | _, _, .nil, _ => ⟨[], .nil, fun j y d h => by simp at h⟩
  | _, _, .cons h t, hl => by
    obtain ⟨ys, r, q⟩ := each_vals rv t hl
    obtain ⟨i, h1, h2⟩ := h
    have hi : i < xs.length := by rw [hl]; exact (List.getElem?_eq_some_iff.mp h2).1
    obtain ⟨u, g1, g2⟩ := rv.get (List.getElem?_eq_getElem hi)
    rw [h1] at g1
    cases g1
    refine ⟨xs[i] :: ys, .cons g2 r, fun j y d a b => ?_⟩
    cases j with
    | zero => simp at a b; subst a b; exact ⟨i, List.getElem?_eq_getElem hi, h2⟩
    | succ j => exact q j y d (by simpa using a) (by simpa using b)
theorem dpAll_get {K : PySem.W.Frag} {H : Hp} : ∀ {xs : List V} {ds : List D} {i : Nat} {d : D}, DpAll K H xs (pys ds) → ds[i]? = some d → ∃ x, xs[i]? = some x ∧ Dp K H x d.py
  | _, [], i, d, _, h => by simp at h
  | _, e :: ds, 0, d, h, q => by
    unfold pys at h
    cases h with
    | cons h1 h2 => simp at q; subst q; exact ⟨_, rfl, h1⟩
  | _, e :: ds, i + 1, d, h, q => by
    unfold pys at h
    cases h with
    | cons h1 h2 =>
      obtain ⟨x, e1, e2⟩ := dpAll_get h2 (by simpa using q)
      exact ⟨x, by simpa using e1, e2⟩
/-- the items of a list or tuple in a row, and the heap behind -/
theorem collect_any {prog : Program} {w : World} {A : Around} {Ex : Value → Shared → Prop} {s : Shared} {P : List Value → Shared → Prop} {a : Addr} {T : String} {o : Obj} {xs : Array Value} {n : Nat} (two : T = "list" ∨ T = "tuple")
    (e1 : s.heap.get? a = some o) (e2 : o.cls = .type T) (e3 : o.data = .seq xs n)
    (q : ∀ h2 : Heap, (∀ b u, s.heap.get? b = some u → h2.get? b = some u) → s.heap.objs.size ≤ h2.objs.size → P xs.toList { s with heap := h2 }) (sz : xs.size ≤ sizeLine) : wpAny (model prog w) A (collect (.ref a)) P Ex s := by
  unfold collect
  apply wpAny_bind
  apply wpAny_runValue
  refine codeAny_builtin F.entry_proto_collect ?_
  rw [Around.under_plainId F.plain_proto_collect _]
  change wpAny _ A.in1 (newList [] >>= fun z => again (.builtin "list.__iadd__" ⟨[z, .ref a], []⟩)) _ _ s
  apply wpAny_bind
  refine wpAny_newObj_type ?_
  refine wpAny_pure ⟨plainId_quiet F.plain_list_iadd _, ?_⟩
  refine codeAny_builtin F.entry_list_iadd ?_
  rw [Around.under_plainId F.plain_list_iadd _]
  change wpAny _ A.in1 (Builtin.List.listExtendWith (.ref s.heap.objs.size) (.ref a) (.ref s.heap.objs.size)) _ _ _
  have atL : (s.heap.push { cls := .type "list", data := .seq ([] : List Value).toArray }).get? s.heap.objs.size = some { cls := .type "list", data := .seq #[] 0 } := Heap.get?_push_size _ rfl
  have atL2 := Heap.get?_update_self (Obj.mapSeq (· ++ xs)) atL rfl
  generalize eh : (s.heap.push { cls := .type "list", data := .seq ([] : List Value).toArray }).update s.heap.objs.size (Obj.mapSeq (· ++ xs)) = h2 at atL2
  have back : wpAny (model prog w) A (match Value.ref s.heap.objs.size with
      | Value.ref z => do
        match (← load z).data with
          | Data.seq ys _ => pure ys.toList
          | _ => unsupported "internal:collect"
      | _ => unsupported "internal:collect") P Ex { s with heap := h2 } := by
    change wpAny _ A (load s.heap.objs.size >>= _) _ _ _
    apply wpAny_bind
    refine wpAny_load atL2 (wpAny_pure ?_)
    have ea : ((#[] : Array Value) ++ xs).toList = xs.toList := by simp
    change P ((#[] : Array Value) ++ xs).toList _
    rw [ea]
    refine q h2 (fun b u hb => ?_) ?_
    · rw [← eh]
      exact (Heap.get?_update_other _ _ (Nat.ne_of_gt (Heap.lt_size hb))).trans (Heap.get?_push_of_some _ hb)
    · rw [← eh, Heap.size_update, Heap.size_push]
      exact Nat.le_succ _
  refine wpAny_mono (wpAny_extend_seq (hsz := sz) (A := A) (R := fun r t => r = .ok (.ret (.ref s.heap.objs.size)) ∧ t = { s with heap := h2 }) (s := { s with heap := s.heap.push { cls := .type "list", data := .seq ([] : List Value).toArray } }) _ a _ 0 two atL (Heap.get?_push_of_some _ e1) e2 e3 ⟨rfl, by rw [← eh]⟩) (fun fin t h => ?_) (fun e t h => ?_)
  · cases fin with
    | done f =>
      obtain ⟨ef, rfl⟩ := h
      cases ef
      exact back
    | again c => exact ⟨h.1, codeAny_mono h.2 fun r t2 hr => by obtain ⟨rfl, rfl⟩ := hr; exact back⟩
  · exact absurd h.1 (by simp)
theorem cr_sortQ {X : Cx} (hu : X.A.units + 200 < cLine) : CallR X (.builtin "sorted") (rSortQ X.K) := by
  intro pins s σ H vs us Q I r h
  obtain ⟨a, xs, ds, rfl, hs, ok, dp, hl, q⟩ := h
  have hseq : ∃ its : List Value, Vals xs its ∧ (∃ (T : String) (o : Obj) (n : Nat), (T = "list" ∨ T = "tuple") ∧ s.heap.get? a = some o ∧ o.cls = .type T ∧ o.data = .seq its.toArray n) ∧ xs.length ≤ sizeLine := by
    rcases hs with hs | hs
    · obtain ⟨its, rv, ⟨o, n, e, hc, _, hd⟩, hz⟩ := I.list hs
      exact ⟨its, rv, ⟨"list", o, n, .inl rfl, e, hc, hd⟩, hz⟩
    · obtain ⟨its, rv, ⟨o, e, hc, n, hd⟩, hz⟩ := I.tuple hs
      exact ⟨its, rv, ⟨"tuple", o, n, .inr rfl, e, hc, hd⟩, hz⟩
  obtain ⟨its, rv, ⟨T, o, n, hT, ho, hc, hd⟩, hz⟩ := hseq
  rw [Vals.ref1 r]
  have hil : its.length ≤ sizeLine := by rw [← rv.length]; exact hz
  unfold sortOk at ok
  simp only [Bool.and_eq_true, List.all_eq_true, decide_eq_true_eq] at ok
  obtain ⟨⟨⟨⟨ok1, ok2⟩, ok3⟩, ok4⟩, ok5⟩ := ok
  refine call_function_entry_kw kind_sorted plain_sorted entry_sorted (args_sorted1 _) ?_
  unfold Builtin.«sorted»
  refine wpAny_bind (m := checkCount "sorted" 1 1 _) (wpAny_pure ?_)
  refine wpAny_bind (collect_any hT ho hc hd (fun h' hk hsz => ?_) (by simpa using hil))
  refine wpAny_bind (wpAny_newList ?_ (by simpa using hil))
  refine wpAny_bind (wpAny_holding ?_)
  have hL : (h'.push (seqObj "list" its.toArray 0)).get? h'.objs.size = some (seqObj "list" its.toArray 0) := Heap.get?_push_size _ rfl
  have hk2 : ∀ b o', s.heap.get? b = some o' → (h'.push (seqObj "list" its.toArray 0)).get? b = some o' := fun b o' e => Heap.get?_push_of_some _ (hk b o' e)
  have hlen2 : its.length = ds.length := by rw [← rv.length]; exact hl
  have nL : ∀ b o', s.heap.get? b = some o' → b ≠ h'.objs.size := fun b o' e => Nat.ne_of_lt (Heap.lt_size (hk b o' e))
  have rd : ∀ (i : Nat) u d, its[i]? = some u → ds[i]? = some d → ∃ as, Reads (h'.push (seqObj "list" its.toArray 0)) u d.py as ∧ h'.objs.size ∉ as := fun i u d e1 e2 => by
    obtain ⟨x, g1, g2⟩ := dpAll_get dp e2
    obtain ⟨u', g3, g4⟩ := rv.get g1
    rw [e1] at g3
    cases g3
    obtain ⟨as, k⟩ := Dp.reads I _ _ _ g2 g4
    refine ⟨as, PyProof.Rows.Reads.keeps hk2 k, fun z => ?_⟩
    obtain ⟨o', e⟩ := PyProof.On.reads_mem_get k _ z
    exact nL _ _ e rfl
  show wpAny _ _ (call (.builtin "list.sort") [.ref h'.objs.size] []) _ _ { s with heap := h'.push (seqObj "list" its.toArray 0) }
  refine list_sort_data (s := { s with heap := h'.push (seqObj "list" its.toArray 0) }) (enc := D.py) (bs := ds) (R := fun u d => ∃ i : Nat, its[i]? = some u ∧ ds[i]? = some d) hL (each_of hlen2 fun i u d e1 e2 => ⟨i, e1, e2⟩) (each_of hlen2 rd) ?_ ?_ ok4 ?_ fun out ho1 ho2 => ?_
  · intro d hd' e he
    obtain ⟨d0, m0, rfl⟩ := List.mem_map.mp hd'
    obtain ⟨e0, m1, rfl⟩ := List.mem_map.mp he
    exact ok2 d0 m0 e0 m1
  · rw [Bool.or_eq_true] at ok3
    rcases ok3 with ok3 | ok3
    · left
      intro d hd'
      obtain ⟨d0, m0, rfl⟩ := List.mem_map.mp hd'
      have z := List.all_eq_true.mp ok3 d0 m0
      cases d0 with
      | tup ys => cases ys with
        | nil => cases z
        | cons y ys => exact ⟨y.py, pys ys, by simp only [D.py, pys]⟩
      | _ => cases z
    · right
      intro d hd'
      obtain ⟨d0, m0, rfl⟩ := List.mem_map.mp hd'
      have z := List.all_eq_true.mp ok3 d0 m0
      cases d0 with
      | non => cases z
      | tup ys => cases z
      | fn _ => cases z
      | dct _ => cases z
      | bl _ => exact ⟨by simp [D.py], by intro ys; simp [D.py]⟩
      | int _ => exact ⟨by simp [D.py], by intro ys; simp [D.py]⟩
      | str _ => exact ⟨by simp [D.py], by intro ys; simp [D.py]⟩
      | lst _ => exact ⟨by simp [D.py], by intro ys; simp [D.py]⟩
      | scr _ => exact ⟨by simp [D.py], by intro ys; simp [D.py]⟩
  · intro d hd'
    have := ok5 d hd'
    show X.A.in1.units + 1 + d.py.depth < cLine
    have e : X.A.in1.units = X.A.units + 1 := rfl
    omega
  · obtain ⟨ys, k1, k2⟩ := each_vals rv ho2 hl
    obtain ⟨ep, he'⟩ := PyProof.Rows.sortedHeap_at (vs := its) (out := out.toArray) hL
    refine wpAny_pure ?_
    have hyl : ys.length = ds.length := by rw [k1.length, ho1]
    refine ⟨_, rfl, .ref h'.objs.size, upd H h'.objs.size (.lst ys), I.laid (t' := s.toks) (fun b u e => ?_) hsz ⟨by rw [hyl]; exact ok4, out, ep, k1, he'⟩, rfl, q ys _ (fun j y d a b => k2 j y d a b) hyl (I.hok.fresh hsz)⟩
    rw [PyProof.Rows.sortedHeap_old (nL b u e) (Heap.lt_size (hk2 b u e))]
    exact hk2 b u e
end
end Fl
end

section
set_option Elab.async false
set_option linter.all false
set_option maxRecDepth 100000
set_option autoImplicit false
/-! Fl, part J: sorted, changes of own lists, isinstance, chains, texts' methods. -/
namespace Fl
open PySem PySem.Spec PyProof.Rows L2

theorem RpA.of_get {mg : Mg} {G : Hp} : ∀ {vs : List V} {ds : List D}, vs.length = ds.length → (∀ (i : Nat) v d, vs[i]? = some v → ds[i]? = some d → Rp mg G v d) → RpA mg G vs ds
  | [], [], _, _ => .nil
  | [], _ :: _, h, _ => by cases h
  | _ :: _, [], h, _ => by cases h
  | v :: vs, d :: ds, h, q => .cons (q 0 v d rfl rfl) (RpA.of_get (by simpa using h) fun i a b h1 h2 => q (i + 1) a b (by simpa using h1) (by simpa using h2))
theorem sortOk_okDs {ds : List D} (h : sortOk ds = true) : okDs ds = true := by
  unfold sortOk at h
  simp only [Bool.and_eq_true] at h
  exact h.1.1.1.1
section
variable {Φ : Fam} {mg : Mg} {K : PySem.W.Frag}
theorem qSort : CallN mg (rSortQ K) sortQ := by
  intro G H v k ds z Q s sv e q
  unfold sortQ at e
  split at e
  · rename_i ok
    cases e
    obtain ⟨a, xs, rfl, r, hs⟩ := sv.sq (K := K)
    refine ⟨a, xs, ds, rfl, hs, ok, r.dp s (sortOk_okDs ok), r.length, fun ys p h1 h2 np => q p ys np ?_⟩
    refine RpA.of_get (by rw [h2]; unfold sortD; rw [List.length_mergeSort]) fun j y d e1 e2 => ?_
    obtain ⟨i, g1, g2⟩ := h1 j y d e1 e2
    obtain ⟨v, g3, g4⟩ := r.get g2
    rw [g1] at g3
    cases g3
    exact g4
  · cases e
theorem cSortQ (i : Φ.ι) : CallR (Φ.X i) (.builtin "sorted") (rSortQ Φ.K) := by
  rw [← Φ.hK i]; exact cr_sortQ (by have := (Φ.room i).2; omega)
end
section
variable {Φ : Fam}
/-! ### new lists by operators, slices -/
def catQ (a b : SK × List D) : Option (List D) := match a.1, b.1 with
  | .l, .l => if a.2.length + b.2.length ≤ sizeLine then some (a.2 ++ b.2) else none
  | _, _ => none
/-- xs + ys, lists: a new own list; the left one must not be an own list that the right one changes -/
theorem so_cat {a b : Expr} {pos : Pos} {ma : M D} {mb : M (SK × List D)} (ha : SE Φ a ma) (hb : SQ Φ b mb) : SO Φ (.BinOp a .Add b pos) (bindM ma fun x => bindM mb fun y => optM (((seqF x).bind fun q => catQ q y).map fun z => Dv.o false z)) := by
  obtain ⟨ta, pa, ha⟩ := ha
  obtain ⟨tb, pb, hb⟩ := hb
  refine ⟨tOp rCat ta tb, fun i => pe_op op_cat (pa i) (pb i), fun F G ρ σ H Q R s => ?_⟩
  refine ha F G ρ σ H _ R (s.bind.imp (fun d ρ1 q G1 H1 x R1 s1 r1 => ?_) fun _ _ z => z)
  refine hb F G1 ρ1 σ H1 _ R1 (q.bind.imp (fun y ρ2 q2 G2 H2 v R2 s2 sv => ?_) fun _ _ z => z)
  obtain ⟨w, e1, q3⟩ := q2.opt
  obtain ⟨z, e2, rfl⟩ := Option.map_eq_some_iff.mp e1
  obtain ⟨⟨k, ds⟩, e3, e4⟩ := Option.bind_eq_some_iff.mp e2
  obtain ⟨k2, es⟩ := y
  unfold catQ at e4
  simp only at e4
  split at e4
  · split at e4
    · rename_i hl
      cases e4
      have r2 := r1.mono s2
      cases r2 with
      | @lst a1 vs _ g1 ra =>
        cases e3
        obtain ⟨b1, ws, rfl, rb, g2⟩ := sv
        refine ⟨_, _, _, _, rfl, rfl, R2.sub _ _ g1, g2, by rw [ra.length, rb.length]; exact hl, fun p np => ?_⟩
        obtain ⟨R3, N⟩ := R2.new np (w := .o false (ds ++ es)) (o := .lst (vs ++ ws)) rfl rfl ⟨_, upd_same, ra.append rb⟩
        exact q3 _ _ _ R3 (s1.trans s2) N
      | _ => cases e3
    · cases e4
  · cases e4
/-- xs + ys, xs an own list of a slot (read again behind ys) -/
def catOM (j : Nat) (mb : M (SK × List D)) : M Dv := fun ρ => if isO ρ j = true then bindM mb (fun y ρ' => match ρ'[j]? with
  | some (some (.o _ ds)) => match catQ (.l, ds) y with
    | some z => .ok (.o false z) ρ'
    | none => .no
  | _ => .no) ρ else .no
theorem so_catO {j : Nat} {x : Str} {b : Expr} {pos p2 : Pos} {mb : M (SK × List D)} (hN : Φ.N[j]? = some x) (hv : Vis Φ.sc x) (hb : SQ Φ b mb) (hd : (x == ("__debug__" : Str)) = false := by decide) (hcd : (x == ("__classdict__" : Str)) = false := by decide) : SO Φ (.BinOp (.Name x p2) .Add b pos) (catOM j mb) := by
  obtain ⟨tb, pb, hb⟩ := hb
  refine ⟨tOp rCat (tVar j) tb, fun i => pe_op op_cat (pe_var (Φ.nx hN i) (Φ.vis hv i) hd hcd) (pb i), fun F G ρ σ H Q R s => ?_⟩
  unfold catOM at s
  split at s
  · rename_i ho
    obtain ⟨f, ds, e⟩ := isO_get ho
    obtain ⟨a, h1, h2, h3, _⟩ := R.own j _ e rfl
    refine ⟨_, h1, ?_⟩
    refine hb F G ρ σ H _ R (s.bind.imp (fun y ρ1 q G1 H1 v R1 s1 sv => ?_) fun _ _ z => z)
    split at q
    · rename_i f1 ds1 e1
      obtain ⟨a1, g1, g2, ⟨vs, g3, g4⟩, _⟩ := R1.own j _ e1 rfl
      rw [h1] at g1
      cases g1
      obtain ⟨k2, es⟩ := y
      split at q
      · rename_i z e4
        unfold catQ at e4
        simp only at e4
        split at e4
        · split at e4
          · rename_i hl
            cases e4
            obtain ⟨b1, ws, rfl, rb, g5⟩ := sv
            refine ⟨_, _, _, _, rfl, rfl, g3, g5, by rw [g4.length, rb.length]; exact hl, fun p np => ?_⟩
            obtain ⟨R3, N⟩ := R1.new np (w := .o false (ds1 ++ es)) (o := .lst (vs ++ ws)) rfl rfl ⟨_, upd_same, g4.append rb⟩
            exact q _ _ _ R3 s1 N
          · cases e4
        · cases e4
      · exact q.elim
    · exact q.elim
  · exact s.elim
/-- [e] * n -/
def repQ (a : SK × List D) (k : D) : Option (List D) := match a.1, k with
  | .l, .int n => if -(2 ^ 63) ≤ n ∧ n < 2 ^ 63 ∧ a.2.length * n.toNat ≤ sizeLine then some (List.replicate n.toNat a.2).flatten else none
  | _, _ => none
/-- xs[a:b], xs an own list: a new list -/
def slOM (j : Nat) (ml mh : M (Option Int)) : M Dv := fun ρ => if isO ρ j = true then bindM ml (fun l => bindM mh fun h ρ' => match ρ'[j]? with
  | some (some (.o _ ds)) => .ok (.o false (cutD ds l h)) ρ'
  | _ => .no) ρ else .no
theorem so_sliceO {j : Nat} {x : Str} {lo hi : Option Expr} {pos p1 p2 : Pos} {ml mh : M (Option Int)} (hN : Φ.N[j]? = some x) (hv : Vis Φ.sc x) (hl : SP Φ lo ml) (hh : SP Φ hi mh) (hd : (x == ("__debug__" : Str)) = false := by decide) (hcd : (x == ("__classdict__" : Str)) = false := by decide) :
    SO Φ (.Subscript (.Name x p1) (.Slice lo hi none p2) pos) (slOM j ml mh) := by
  obtain ⟨tl, pl, hl⟩ := hl
  obtain ⟨th, ph, hh⟩ := hh
  refine ⟨tSl (rSlL Φ.K) (tVar j) tl th, fun i => by rw [← Φ.hK i]; exact pe_slice sl_list (pe_var (Φ.nx hN i) (Φ.vis hv i) hd hcd) (pl i) (ph i), fun F G ρ σ H Q R s => ?_⟩
  unfold slOM at s
  split at s
  · rename_i ho
    obtain ⟨f, ds, e⟩ := isO_get ho
    obtain ⟨a, h1, h2, h3, _⟩ := R.own j _ e rfl
    refine ⟨_, h1, ?_⟩
    refine hl F G ρ σ H _ R (s.bind.imp (fun l ρ2 q G2 H2 R2 s2 => ?_) fun _ _ z => z)
    refine hh F G2 ρ2 σ H2 _ R2 (q.bind.imp (fun u ρ3 q G3 H3 R3 s3 => ?_) fun _ _ z => z)
    split at q
    · rename_i f1 ds1 e1
      obtain ⟨a1, g1, g2, ⟨vs, g3, g4⟩, _⟩ := R3.own j _ e1 rfl
      rw [h1] at g1
      cases g1
      refine ⟨_, _, rfl, SqL.of g3, fun p np => ?_⟩
      obtain ⟨R4, N⟩ := R3.new np (w := .o false (cutD ds1 l u)) (o := .lst (cutV vs l u)) rfl rfl ⟨_, upd_same, cut_rp l u g4⟩
      exact q _ _ _ R4 (s2.trans s3) N
    · exact q.elim
  · exact s.elim
/-! ### own lists change -/
def appM (j : Nat) (m : M D) : M Fw := fun ρ => if isO ρ j = true then bindM m (fun d ρ' => match ρ'[j]? with
  | some (some (.o f ds)) => if ds.length < sizeLine then .ok .nx (ρ'.set j (some (.o f (ds ++ [d])))) else .no
  | _ => .no) ρ else .no
theorem ss_append {j : Nat} {x : Str} {e : Expr} {p1 p2 p3 pos : Pos} {m : M D} (hN : Φ.N[j]? = some x) (hv : Vis Φ.sc x) (h : SE Φ e m) (hd : (x == ("__debug__" : Str)) = false := by decide) (hcd : (x == ("__classdict__" : Str)) = false := by decide)
    (hst : ∀ env, starEach [e] env = (false, eval e env) :: starEach [] env := by intro _; first | rfl | with_unfolding_all rfl)
    (a1 : ∀ env, attributeBase (.Name x p1) ("append" : Str) env (eval (.Name x p1) env) = eval (.Name x p1) env := by intro _; first | rfl | with_unfolding_all rfl)
    (a2 : ∀ env, (((backTo p3 (starEach [e] env)).all fun x => !x.1) && ((backToKw p3 (keywordEach [] env)).all fun x => x.1.isSome) && decide (([e] : List Expr).length + ([] : List Keyword).length + (if ([] : List Keyword).isEmpty = true then 0 else 1) < 30)) = true := by intro _; first | rfl | with_unfolding_all rfl)
    (a3 : (p2.endLine == p3.line) = true := by rfl) (hsw : ∀ env, swapsWith (.Call (.Attribute (.Name x p1) ("append" : Str) p2) [e] [] p3) none pos.line env = pure false := by intro _; first | rfl | with_unfolding_all rfl) :
    SS Φ (.Expr (.Call (.Attribute (.Name x p1) ("append" : Str) p2) [e] [] p3) pos) (appM j m) := by
  obtain ⟨t, q, h⟩ := h
  refine ⟨tDrop (tBM Φ.K "list" rAppend (tVar j) (tCons t tNil)), fun i => ps_expr (by rw [← Φ.hK i]; exact pe_bm PySem.F.plainAttrs_list PySem.F.slot_list_append PySem.F.type_list_append mt_append (pe_var (Φ.nx hN i) (Φ.vis hv i) hd hcd) (pa1 (q i) hst) (a1 _) (a2 _) a3 (hst _) rfl) (hsw _), fun F G ρ σ H D R s => ?_⟩
  unfold appM at s
  split at s
  · rename_i ho
    obtain ⟨f, ds, e⟩ := isO_get ho
    obtain ⟨a, h1, h2, ⟨xs, h3, h4⟩, _⟩ := R.own j _ e rfl
    refine ⟨_, h1, .inl ⟨rfl, _, SqL.of h3⟩, ?_⟩
    refine h F G ρ σ H _ R (s.bind.imp (fun d ρ1 q G1 H1 v R1 s1 r => ?_) fun _ _ z => z)
    split at q
    · rename_i f1 ds1 e1
      obtain ⟨a1, g1, g2, ⟨xs1, g3, g4⟩, _⟩ := R1.own j _ e1 rfl
      rw [h1] at g1
      cases g1
      split at q
      · rename_i hl
        refine ⟨a, xs1, v, rfl, rfl, g3, by rw [g4.length]; exact hl, ?_⟩
        exact q G1 σ _ (R1.mut e1 rfl h1 rfl rfl ⟨_, upd_same, g4.append (.cons r .nil)⟩) s1
      · exact q.elim
    · exact q.elim
  · exact s.elim
/-- x[i] = e, x an own list -/
def setIxM (j : Nat) (m mi : M D) : M Fw := bindM m fun d ρ => if isO ρ j = true then bindM mi (fun k ρ' => match ρ'[j]?, k with
  | some (some (.o f ds)), .int i => match ixN ds.length i with
    | some n => .ok .nx (ρ'.set j (some (.o f (ds.set n d))))
    | none => .no
  | _, _ => .no) ρ else .no
theorem ss_setIx {j : Nat} {x : Str} {e ie : Expr} {p1 p2 pos : Pos} {m mi : M D} (hN : Φ.N[j]? = some x) (hv : Vis Φ.sc x) (h : SE Φ e m) (hi : SE Φ ie mi) (hd : (x == ("__debug__" : Str)) = false := by decide) (hcd : (x == ("__classdict__" : Str)) = false := by decide)
    (hs : ∀ i, PSet (Φ.X i) rSetL → True := by intro _ _; trivial) (hpx : ∀ X : Cx, PSet X rSetL → ∀ (to ti : TE), PE X (.Name x p1) to → PE X ie ti → PG X (.Subscript (.Name x p1) ie p2) (gSub to ti rSetL) := by intro X h to ti h1 h2; exact pg_sub h1 h2 h)
    (h1 : ∀ env, swapsWithSole [.Subscript (.Name x p1) ie p2] e pos.line env = pure false := by intro _; first | rfl | with_unfolding_all rfl)
    (h2 : ∀ env, swappedStores [.Subscript (.Name x p1) ie p2] e env = pure none := by intro _; first | rfl | with_unfolding_all rfl) (h3 : ∀ env, (assignEach [.Subscript (.Name x p1) ie p2] env).map (fun x => x.2) = [assign (.Subscript (.Name x p1) ie p2) env] := by intro _; first | rfl | with_unfolding_all rfl) :
    SS Φ (.Assign [.Subscript (.Name x p1) ie p2] e pos) (setIxM j m mi) := by
  obtain ⟨t, q, h⟩ := h
  obtain ⟨ti, qi, hi⟩ := hi
  refine ⟨tAsg t (gSub (tVar j) ti rSetL), fun i => ps_asg (q i) (hpx _ set_list _ _ (pe_var (Φ.nx hN i) (Φ.vis hv i) hd hcd) (qi i)) (h1 _) (h2 _) (h3 _), fun F G ρ σ H D R s => ?_⟩
  refine h F G ρ σ H _ R (s.bind.imp (fun d ρ1 q G1 H1 v R1 s1 r => ?_) fun _ _ z => z)
  split at q
  · rename_i ho
    obtain ⟨f, ds, e⟩ := isO_get ho
    obtain ⟨a, k1, k2, _, _⟩ := R1.own j _ e rfl
    refine ⟨_, k1, ?_⟩
    refine hi F G1 ρ1 σ H1 _ R1 (q.bind.imp (fun kd ρ2 q G2 H2 w R2 s2 r2 => ?_) fun _ _ z => z)
    split at q
    · rename_i f1 ds1 i1 e1
      obtain ⟨a1, g1, g2, ⟨xs1, g3, g4⟩, _⟩ := R2.own j _ e1 rfl
      rw [k1] at g1
      cases g1
      cases r2
      split at q
      · rename_i n en
        refine ⟨a, xs1, _, n, rfl, rfl, g3, by rw [g4.length]; exact en, ?_⟩
        exact q G2 σ _ (R2.mut e1 rfl k1 rfl rfl ⟨_, upd_same, RpA.set (r.mono s2) n g4⟩) (s1.trans s2)
      · exact q.elim
    · exact q.elim
  · exact q.elim
/-- x += e and its kin, by a pure operator (ints; texts by iop) -/
def augM (j : Nat) (f : D → D → Option D) (m : M D) : M Fw := fun ρ => match ρ[j]? with
  | some (some (.p x)) => bindM m (fun d => bindM (optM (f x d)) fun z => putS j (.p z)) ρ
  | _ => .no
def IpS (mg : Mg) (t : TIp) (f : D → D → Option D) : Prop := ∀ (G H : Hp) (x y : V) (d e z : D) (Q : VK), Same G H → Rp mg G x d → Rp mg G y e → f d e = some z → (∀ G' H' w, Ext G H G' H' → Rp mg G' w z → Q w H') → t x y H Q
def IpOk (Φ : Fam) (op : Operator) (f : D → D → Option D) : Prop := ∃ t, (∀ i, PIp (Φ.X i) op t) ∧ IpS Φ.mg t f
theorem ss_aug {j : Nat} {x : Str} {op : Operator} {e : Expr} {pos pos' : Pos} {m : M D} {f : D → D → Option D} (ho : IpOk Φ op f) (hN : Φ.N[j]? = some x) (hl : Loc Φ.sc0 x) (h : SE Φ e m) : SS Φ (.AugAssign (.Name x pos') op e pos) (augM j f m) := by
  obtain ⟨ti, o1, o2⟩ := ho
  obtain ⟨t, q, h⟩ := h
  refine ⟨tAug j t ti, fun i => ps_aug (Φ.ndi i) (Φ.nx hN i) (Φ.loc hl i) (q i) (o1 i) (Φ.fnl hl i), fun F G ρ σ H D R s => ?_⟩
  unfold augM at s
  split at s
  · rename_i d0 e0
    obtain ⟨v0, k1, k2⟩ := R.pure j d0 e0
    refine ⟨v0, k1, ?_⟩
    refine h F G ρ σ H _ R (s.bind.imp (fun d ρ1 q G1 H1 v R1 s1 r => ?_) fun _ _ z => z)
    obtain ⟨z, ez, q⟩ := q.bind.opt
    exact o2 G1 H1 v0 v d0 d z _ R1.sub (k2.mono s1) r ez fun G' H' w xt rw_ => putP_ok q (R1.ext xt) (s1.trans xt.hG) rw_
  · exact s.elim
theorem ipAddI : IpOk Φ .Add (intF (fun _ _ => True) fun i j => i + j) := ⟨_, fun i => ip_add, by
  intro G H x y d e z Q s rx ry hz q
  unfold intF at hz
  split at hz
  · simp only [if_true] at hz; cases rx; cases ry; cases hz; exact ⟨_, _, rfl, rfl, q G H _ (Ext.refl s) (.int _)⟩
  · cases hz⟩
theorem ipSubI : IpOk Φ .Sub (intF (fun _ _ => True) fun i j => i - j) := ⟨_, fun i => ip_sub, by
  intro G H x y d e z Q s rx ry hz q
  unfold intF at hz
  split at hz
  · simp only [if_true] at hz; cases rx; cases ry; cases hz; exact ⟨_, _, rfl, rfl, q G H _ (Ext.refl s) (.int _)⟩
  · cases hz⟩
theorem Sat.keep {α : Type} {o : Out α} {P : α → Env → Prop} {P2 : α → Prop} {E : Exn → Env → Prop} (h : Sat o P E) (k : ∀ a ρ, o = .ok a ρ → P2 a) : Sat o (fun a ρ => P2 a ∧ P a ρ) E := by
  cases o with
  | ok a ρ => exact ⟨k a ρ rfl, h⟩
  | ex c ρ => exact h
  | no => exact h
theorem lcM_is {vs : List Nat} {mi : M (List D)} {f : D → Env → Option Env} {mt : M Bool} {me : M D} {ρ ρ' : Env} {w : Dv} (h : lcM vs mi f mt me ρ = .ok w ρ') : ∃ ds, w = .o false ds := by
  unfold lcM bindM at h
  split at h
  · dsimp only at h
    split at h
    · split at h
      · cases h; exact ⟨_, rfl⟩
      · cases h
    · cases h
  · cases h
  · cases h
/-! ### x = [..] in one row -/
theorem ss_setLc {i : Nat} {y : Str} {py : Pos} {elt tg iter : Expr} {ifs : List Expr} {scope : Scope} {own : List (Str × Nat)} {pos spos : Pos} {mi : M (List D)} {f : D → Env → Option Env} {ts : List Nat} {mt : M Bool} {me : M D} {fz : Bool} (hN : Φ.N[i]? = some y) (hyl : Φ.sc.names.lookup y = some .local) (hkind : Φ.sc.kind = .function)
    (hi : SI Φ tg iter mi) (ok : BlkOk Φ.N Φ.sc scope own) (hg : SG (Φ.blk scope) tg f ts) (ht : STs (Φ.blk scope) ifs mt) (he : SE (Φ.blk scope) elt me) (hts : (ts.all fun t => (own.map (·.2)).contains t) = true) (hline : (py.line == pos.line) = true := by rfl)
    (hnot : (scope.names.any fun (n, k) => n == y && (k == .local || k == .cell)) = false := by decide +kernel) (hs : ∀ env x, foldedSetIterable iter env x = pure x := by intro _ _; first | rfl | with_unfolding_all rfl) (hc : Φ.cal = true := by rfl) :
    SS Φ (.Assign [.Name y py] (.ListComp elt [⟨tg, iter, ifs, 0⟩] scope pos) spos) (if fz = true then setM i (frzM (lcM (own.map (·.2)) mi f mt me)) else setO i (lcM (own.map (·.2)) mi f mt me)) := by
  obtain ⟨wi, pi, hi⟩ := hi
  obtain ⟨g, pg, hg⟩ := hg
  obtain ⟨tt, pt, ht⟩ := ht
  obtain ⟨te, pe, he⟩ := he
  refine ⟨tAsg (tLc wi g tt te (own.map (·.2))) (gName i), fun j => ps_setLc (Φ.calm hc j) (Φ.ndi j) (Φ.nx hN j) (by rw [Φ.hsc j]; exact hyl) (sw_true (by rw [Φ.hsc j]; exact hkind) (by rw [Φ.hsc j]; exact hyl) hline hnot) (pi j) (by rw [Φ.hN j, Φ.hsc j]; exact ok) (fun s H C cl fp => pg (j, s, H, C, cl, fp)) (fun s H C cl fp => pt (j, s, H, C, cl, fp)) (fun s H C cl fp => pe (j, s, H, C, cl, fp)) (hs _), fun F G ρ σ H D R s => ?_⟩
  have hts' : ∀ t ∈ ts, t ∈ own.map (·.2) := fun t h => by
    have z := List.all_eq_true.mp hts t h
    simpa using z
  cases fz with
  | false =>
    simp only [Bool.false_eq_true, if_false] at s
    exact ho_lc hi hg ht he hts' F G ρ σ H _ R (s.bind.imp (fun d ρ1 q G1 H1 v R1 s1 r => putO_ok q R1 s1 r) fun _ _ z => z)
  | true =>
    simp only [if_true] at s
    refine ho_lc hi hg ht he hts' F G ρ σ H _ R ((s.bind.bind.keep (fun a ρ e => lcM_is e)).imp (fun w ρ1 q G1 H1 a R1 s1 N => ?_) fun _ _ z => z)
    obtain ⟨⟨ds0, rfl⟩, q⟩ := q
    obtain ⟨d, e1, q⟩ := q.opt
    cases e1
    obtain ⟨xs, e, R2, sg2, r⟩ := R1.freeze N
    exact putP_ok q R2 (s1.trans sg2) r
end
end Fl
end

section
set_option Elab.async false
set_option linter.all false
set_option maxRecDepth 100000
set_option autoImplicit false
/-! Fl, part K: isinstance, chains, pairs, enumerate, join, bit_length, repeats. -/
namespace Fl
open PySem PySem.Spec PyProof.Rows L2

/-! ### isinstance of data -/
inductive Ty where
  | bool | int | str | tup | lst | dct
def Ty.nm : Ty → String
  | .bool => "bool"
  | .int => "int"
  | .str => "str"
  | .tup => "tuple"
  | .lst => "list"
  | .dct => "dict"
inductive Tc where
  | non | bool | int | str | tup | lst | dct
def Tc.nm : Tc → String
  | .non => "NoneType"
  | .bool => "bool"
  | .int => "int"
  | .str => "str"
  | .tup => "tuple"
  | .lst => "list"
  | .dct => "dict"
def Tc.is : Tc → Ty → Bool
  | .bool, .bool => true
  | .bool, .int => true
  | .int, .int => true
  | .str, .str => true
  | .tup, .tup => true
  | .lst, .lst => true
  | .dct, .dct => true
  | _, _ => false
theorem tc_kit (c : Tc) (t : Ty) : kitB c.nm t.nm = some (c.is t) := by cases c <;> cases t <;> decide +kernel
def tcF : D → Option Tc
  | .non => some .non
  | .bl _ => some .bool
  | .int _ => some .int
  | .str _ => some .str
  | .tup _ => some .tup
  | .lst _ => some .lst
  | .scr _ => some .lst
  | .fn _ => none
  | .dct _ => some .dct
def isiF (ts : List Ty) (d : D) : Option D := (tcF d).map fun c => .bl (ts.any c.is)
theorem tc_ty {K : PySem.W.Frag} {mg : Mg} {G H : Hp} {v : V} {d : D} {c : Tc} (s : Same G H) (r : Rp mg G v d) (h : tcF d = some c) : TyX K H v (.type c.nm) := by
  cases r with
  | non => cases h; exact .base .non
  | bl b => cases h; exact .base (.bl b)
  | int b => cases h; exact .base (.int b)
  | str b => cases h; exact .base (.str b)
  | tup e r => cases h; exact .base (.tup (s _ _ e))
  | lst e r => cases h; exact .base (.lst (s _ _ e))
  | scr e => cases h; exact .base (.frz (s _ _ e))
  | fn e => cases h
  | dct e r => cases h; exact .fDict (s _ _ e)
theorem kit_any {K : PySem.W.Frag} (c : Tc) : ∀ ts : List Ty, PySem.W.kitAny K (.type c.nm) (ts.map fun t => Value.type t.nm) = some (ts.any c.is)
  | [] => kitAny_nil
  | t :: ts => kitAny_cons (kit_ty (tc_kit c t)) (fun h => by rw [List.any_cons, h, Bool.false_or]; exact kit_any c ts) (fun h => by rw [List.any_cons, h, Bool.true_or])
section
variable {Φ : Fam}
theorem se_isi {x : Str} {p p2 pos : Pos} {e : Expr} {m : M D} (ty : Ty) (h : SE Φ e m) (hgI : Φ.sc.names.lookup ("isinstance" : Str) = some .globalImplicit) (hmI : Φ.mg "isinstance" = none) (hg : Φ.sc.names.lookup x = some .globalImplicit) (hm : Φ.mg x = none) (hv : bootBuiltins x = some (.type ty.nm))
    (hn : x ≠ "__name__" := by decide) (hd : (x == ("__debug__" : Str)) = false := by decide) (hst : ∀ env, starEach [e, .Name x p2] env = (false, eval e env) :: starEach [.Name x p2] env := by intro _; first | rfl | with_unfolding_all rfl) :
    SE Φ (.Call (.Name "isinstance" p) [e, .Name x p2] [] pos) (bindM m fun d => optM (isiF [ty] d)) := by
  obtain ⟨t, q, h⟩ := h
  refine ⟨tCB (rIsi Φ.K) (tCons t (tCons (tC (.ty ty.nm)) tNil)), fun i => pe_callB (by rw [← Φ.hK i]; exact call_isi) (Φ.gl hgI i) (Φ.mgn hmI i) (by rfl) (pa_cons (q i) (pa_cons (pe_bltn (Φ.gl hg i) (Φ.mgn hm i) hv rfl hn hd) pa_nil rfl) (hst _)) (by decide) (by decide) (hst _) rfl, fun F G ρ σ H Q R s => ?_⟩
  refine h F G ρ σ H _ R (s.bind.imp (fun d ρ1 q G1 H1 v R1 s1 r => ?_) fun _ _ z => z)
  obtain ⟨z, e1, q⟩ := q.opt
  obtain ⟨c, hc, rfl⟩ := Option.map_eq_some_iff.mp e1
  refine ⟨v, .ty ty.nm, _, _, _, rfl, .ty _, tc_ty R1.sub r hc, kit_ty (tc_kit c ty), ?_⟩
  have := q G1 H1 (.bl (c.is ty)) R1 s1 (by rw [show ([ty].any c.is) = c.is ty by simp]; exact .bl _)
  exact this
/-- the classes of a display -/
def TysE (Φ : Fam) (es : List Expr) (ts : List Ty) : Prop := ∃ t, (∀ i, PA (Φ.X i) es t) ∧ ∀ σ H (Q : List V → Hp → Prop), Q (ts.map fun t => V.ty t.nm) H → t σ H Q
theorem tys_nil : TysE Φ [] [] := ⟨tNil, fun _ => pa_nil, fun σ H Q q => q⟩
theorem tys_cons {x : Str} {p : Pos} {es : List Expr} {ts : List Ty} (ty : Ty) (hg : Φ.sc.names.lookup x = some .globalImplicit) (hm : Φ.mg x = none) (hv : bootBuiltins x = some (.type ty.nm)) (h : TysE Φ es ts)
    (hn : x ≠ "__name__" := by decide) (hd : (x == ("__debug__" : Str)) = false := by decide) (hst : ∀ env, starEach (.Name x p :: es) env = (false, eval (.Name x p) env) :: starEach es env := by intro _; first | rfl | with_unfolding_all rfl) : TysE Φ (.Name x p :: es) (ty :: ts) := by
  obtain ⟨t, a, h⟩ := h
  exact ⟨tCons (tC (.ty ty.nm)) t, fun i => pa_cons (pe_bltn (Φ.gl hg i) (Φ.mgn hm i) hv rfl hn hd) (a i) (hst _), fun σ H Q q => h σ H _ q⟩
theorem cls_tys : ∀ ts : List Ty, Paired ClsV (ts.map fun t => V.ty t.nm) (ts.map fun t => Value.type t.nm)
  | [] => .nil
  | _ :: ts => .cons (.ty _) (cls_tys ts)
theorem se_isiT {p p2 pos : Pos} {kt : Nat} {e : Expr} {es : List Expr} {ts : List Ty} {m : M D} (h : SE Φ e m) (hgI : Φ.sc.names.lookup ("isinstance" : Str) = some .globalImplicit) (hmI : Φ.mg "isinstance" = none) (ht : TysE Φ es ts) (hl : ts.length ≤ 100 := by decide)
    (hst : ∀ env, starEach [e, .Tuple es kt p2] env = (false, eval e env) :: starEach [.Tuple es kt p2] env := by intro _; first | rfl | with_unfolding_all rfl) :
    SE Φ (.Call (.Name "isinstance" p) [e, .Tuple es kt p2] [] pos) (bindM m fun d => optM (isiF ts d)) := by
  obtain ⟨t, q, h⟩ := h
  obtain ⟨ta, qa, ha⟩ := ht
  refine ⟨tCB (rIsiT Φ.K) (tCons t (tCons (tTup ta) tNil)), fun i => pe_callB (by rw [← Φ.hK i]; exact call_isiT) (Φ.gl hgI i) (Φ.mgn hmI i) (by rfl) (pa_cons (q i) (pa_cons (pe_tup (qa i)) pa_nil rfl) (hst _)) (by decide) (by decide) (hst _) rfl, fun F G ρ σ H Q R s => ?_⟩
  refine h F G ρ σ H _ R (s.bind.imp (fun d ρ1 q G1 H1 v R1 s1 r => ?_) fun _ _ z => z)
  obtain ⟨z, e1, q⟩ := q.opt
  obtain ⟨c, hc, rfl⟩ := Option.map_eq_some_iff.mp e1
  refine ha _ _ _ ⟨by rw [List.length_map, sizeLine_eq]; omega, fun a na => ?_⟩
  have x := Ext.alloc R1.sub na (.tup (ts.map fun t => V.ty t.nm))
  exact ⟨v, a, _, _, _, _, rfl, upd_same, cls_tys ts, tc_ty (R1.ext x).sub (r.mono x.hG) hc, kit_any c ts, q _ _ (.bl (ts.any c.is)) (R1.ext x) (s1.trans x.hG) (.bl _)⟩

/-! ### a op b op c -/
def chainM (f g : D → D → Option D) (ma mb mc : M D) : M D := bindM ma fun x => bindM mb fun y => bindM (optM (f x y)) fun z => match z with
  | .bl true => bindM mc fun u => optM (g y u)
  | .bl false => pureM (.bl false)
  | _ => noM
theorem he_chain {r r' : R2} {f g : D → D → Option D} {ta tb tc : TE} {ma mb mc : M D} {mg : Mg} {W : WX} (hs : OpS mg r f) (hs' : OpS mg r' g) (ha : HE mg W ta ma) (hb : HE mg W tb mb) (hc : HE mg W tc mc) : HE mg W (tChain r r' ta tb tc) (chainM f g ma mb mc) := by
  intro F G ρ σ H Q R s
  refine ha F G ρ σ H _ R (s.bind.imp (fun d ρ1 q G1 H1 x R1 s1 r1 => ?_) fun _ _ z => z)
  refine hb F G1 ρ1 σ H1 _ R1 (q.bind.imp (fun e ρ2 q2 G2 H2 y R2 s2 r2 => ?_) fun _ _ z => z)
  obtain ⟨z, e1, q3⟩ := q2.bind.opt
  refine hs G2 H2 x y d e z _ R2.sub (r1.mono s2) r2 e1 fun G' H' w xt rw_ => ?_
  cases rw_ with
  | bl b =>
    refine ⟨b, rfl, ?_⟩
    cases b with
    | false => exact q3 G' H' _ (R2.ext xt) (s1.trans (s2.trans xt.hG)) (.bl _)
    | true =>
      simp only [if_true]
      refine hc F G' ρ2 σ H' _ (R2.ext xt) (q3.bind.imp (fun u ρ3 q4 G3 H3 y3 R3 s3 r3 => ?_) fun _ _ z => z)
      obtain ⟨z', e2, q5⟩ := q4.opt
      exact hs' G3 H3 y y3 e u z' _ R3.sub (r2.mono (xt.hG.trans s3)) r3 e2 fun G4 H4 w4 x4 rw4 => q5 G4 H4 w4 (R3.ext x4) (s1.trans (s2.trans (xt.hG.trans (s3.trans x4.hG)))) rw4
  | _ => exact q3.elim
theorem se_chain {op op' : CmpOp} {a b c : Expr} {pos : Pos} {f g : D → D → Option D} {ma mb mc : M D} (ho : OpOk Φ (compareOp op) f) (ho' : OpOk Φ (compareOp op') g) (ha : SE Φ a ma) (hb : SE Φ b mb) (hc : SE Φ c mc) (hm : lastMarks [op, op'] [b, c] = false := by first | rfl | with_unfolding_all rfl) :
    SE Φ (.Compare a [op, op'] [b, c] pos) (chainM f g ma mb mc) := by
  obtain ⟨r, h1, h2⟩ := ho
  obtain ⟨r', h1', h2'⟩ := ho'
  obtain ⟨ta, pa, ha⟩ := ha
  obtain ⟨tb, pb, hb⟩ := hb
  obtain ⟨tc, pc, hc⟩ := hc
  exact ⟨_, fun i => pe_chain (h1 i) (h1' i) (pa i) (pb i) (pc i) hm, he_chain h2 h2' ha hb hc⟩
theorem st_chain {op op' : CmpOp} {a b c : Expr} {pos : Pos} {f g : D → D → Option D} {ma mb mc : M D} (ho : OpOk Φ (compareOp op) f) (ho' : OpOk Φ (compareOp op') g) (ha : SE Φ a ma) (hb : SE Φ b mb) (hc : SE Φ c mc) (hm : lastMarks [op, op'] [b, c] = false := by first | rfl | with_unfolding_all rfl) :
    ST Φ (.Compare a [op, op'] [b, c] pos) (boolM (chainM f g ma mb mc)) := by
  obtain ⟨r, h1, h2⟩ := ho
  obtain ⟨r', h1', h2'⟩ := ho'
  obtain ⟨ta, pa, ha⟩ := ha
  obtain ⟨tb, pb, hb⟩ := hb
  obtain ⟨tc, pc, hc⟩ := hc
  refine ⟨_, fun i => pt_chain (h1 i) (h1' i) (pa i) (pb i) (pc i) hm, fun F G ρ σ H Q R s => ?_⟩
  refine he_chain h2 h2' ha hb hc F G ρ σ H _ R (s.bind.imp (fun d ρ' q G' H' v R' sg r => ?_) fun _ _ z => z)
  obtain ⟨b, e1, q⟩ := q.opt
  cases r with
  | bl b' => cases e1; exact ⟨_, rfl, q G' H' R' sg⟩
  | _ => cases e1

/-! ### a, b = x, y -/
def parM (i j : Nat) (m : M (List D)) : M Fw := bindM m fun ds => match ds with
  | [d, e] => seqS (putS i (.p d)) (putS j (.p e))
  | _ => noM
def starB : Expr → Bool
  | .Starred .. => true
  | _ => false
def ParOk (px py : Pos) (a b : Expr) : Bool := (px.line == py.line) && !starB a && !starB b && !(foldedForSure 8 a && foldedForSure 8 b) && !(constantsAlone 8 a && constantsAlone 8 b)
theorem par_sw {env : PySem.Env} {x y : Str} {a b : Expr} {px py pt pt2 : Pos} {kt k2 : Nat} (hk : env.scope.kind = .function) (hx : env.scope.names.lookup x = some .local) (hy : env.scope.names.lookup y = some .local) (h : ParOk px py a b = true) (hne : (x == y) = false) :
    swappedStores [.Tuple [.Name x px, .Name y py] kt pt] (.Tuple [a, b] k2 pt2) env = pure (some [x, y]) := by
  have kx : env.kindOf x = some .local := hx
  have ky : env.kindOf y = some .local := hy
  have hb : env.blockKind = .function := by unfold Env.blockKind; rw [hk]; rfl
  unfold ParOk at h
  simp only [Bool.and_eq_true, Bool.not_eq_true'] at h
  obtain ⟨⟨⟨⟨h1, h2⟩, h3⟩, h4⟩, h5⟩ := h
  have e1 : (px.line == px.line) = true := by simp
  have e2 : (py.line == px.line) = true := by rw [beq_iff_eq.mp h1]; simp
  have n2 : ([x, y].eraseDups.length != [x, y].length) = false := by
    have z : (y == x) = false := by
      cases q : y == x with
      | false => rfl
      | true => rw [beq_iff_eq.mp q] at hne; simp at hne
    simp [List.eraseDups_cons, z]
  have s1 : ([a, b].any fun | .Starred .. => true | _ => false) = false := by
    have g : ∀ e, starB e = false → (match e with | .Starred .. => true | _ => false) = false := fun e h => by cases e <;> first | rfl | cases h
    rw [List.any_cons, List.any_cons, List.any_nil, g a h2, g b h3]; rfl
  have e3 : (some NameKind.local == some NameKind.local) = true := rfl
  have e4 : (ScopeKind.function != ScopeKind.function) = false := rfl
  unfold swappedStores
  simp only [pure_bind, hb]
  refine (if_neg (show ¬ (false = true) from Bool.false_ne_true)).trans ((if_neg (Bool.eq_false_iff.mp s1)).trans ?_)
  simp only [List.filterMap_cons, List.filterMap_nil, kx, ky, List.head?_cons, Option.map_some, Option.getD_some, Expr.pos, e1, e2, e3, e4, Bool.and_self, if_true]
  simp only [n2, List.all_cons, List.all_nil, h4, h5, Bool.and_true]
  rfl
theorem put2_ok {mg : Mg} {F : Fr} {G G1 : Hp} {ρ : Env} {σ : L2.St} {H : Hp} {Z : Ends} {i j : Nat} {d e : D} {v u : V} {Ex : Exn → Env → Prop} (s : Sat (seqS (putS i (.p d)) (putS j (.p e)) ρ) (FPost mg F G Z) Ex) (R : Rel mg F G1 ρ σ H) (sg : Same G G1) (r : Rp mg G1 v d) (r2 : Rp mg G1 u e) :
    Z.nx ((σ.set i (some v)).set j (some u)) H := by
  unfold seqS bindM putS at s
  by_cases hk : okSlot ρ i = true
  · by_cases hk2 : okSlot (ρ.set i (some (.p d))) j = true
    · rw [if_pos hk] at s
      simp only [hk2, if_true] at s
      exact s G1 _ _ ((R.setP r (okSlot_io hk)).setP r2 (okSlot_io hk2)) sg
    · rw [if_pos hk] at s
      simp only [hk2] at s
      exact s.elim
  · rw [if_neg hk] at s
    exact s.elim
theorem ss_par {i j : Nat} {x y : Str} {a b : Expr} {px py pt pt2 pos : Pos} {kt k2 : Nat} {m : M (List D)} (hx : Φ.N[i]? = some x) (hy : Φ.N[j]? = some y) (hij : i ≠ j) (hlx : Φ.sc.names.lookup x = some .local) (hly : Φ.sc.names.lookup y = some .local) (h : SA Φ [a, b] m)
    (hk : Φ.sc.kind = .function) (hw : ParOk px py a b = true) (hne : (x == y) = false := by decide)
    (hs : ∀ env, swapsWithSole [.Tuple [.Name x px, .Name y py] kt pt] (.Tuple [a, b] k2 pt2) pos.line env = pure false := by intro _; first | rfl | with_unfolding_all rfl) (hc : Φ.cal = true := by rfl) :
    SS Φ (.Assign [.Tuple [.Name x px, .Name y py] kt pt] (.Tuple [a, b] k2 pt2) pos) (parM i j m) := by
  obtain ⟨t, p, h⟩ := h
  refine ⟨tPar i j t, fun k => ps_par (Φ.calm hc k) (Φ.ndi k) (Φ.nx hx k) (Φ.nx hy k) hij (by rw [Φ.hsc k]; exact hlx) (by rw [Φ.hsc k]; exact hly) (p k) (par_sw (by rw [Φ.hsc k]; exact hk) (by rw [Φ.hsc k]; exact hlx) (by rw [Φ.hsc k]; exact hly) hw hne) (hs _), fun F G ρ σ H Z R s => ?_⟩
  refine h F G ρ σ H _ R (s.bind.imp (fun ds ρ1 q G1 H1 vs R1 s1 r => ?_) fun _ _ z => z)
  cases r with
  | nil => exact q.elim
  | cons rd r =>
    cases r with
    | nil => exact q.elim
    | cons re r =>
      cases r with
      | cons _ _ => exact q.elim
      | nil =>
        exact ⟨_, _, rfl, put2_ok q R1 s1 rd re⟩
end
end Fl
end

section
set_option Elab.async false
set_option linter.all false
set_option maxRecDepth 100000
set_option autoImplicit false
/-! Fl, part L: enumerate over a tuple or a list. -/
namespace Fl
open PySem PySem.Spec PyProof.Rows L2
/-- enumerate.__new__ of one thing that iterates -/
theorem enum_new1 {v : Value} {o : Obj} {H : Heap → Prop} (B : Begins v o H) :
    Meets (Builtin.«enumerate.__new__» ⟨[.type "enumerate", v], []⟩) (fun _ R s => H s.heap ∧
      R (.ok (.ret (.ref (s.heap.push o).objs.size))) { s with heap := (s.heap.push o).push { cls := .type "enumerate", data := .fields #[.none, .bool false, .ref s.heap.objs.size, rawInt 0, .none, .none] } }) :=
  .of_wp fun prog w A R s h => by
    obtain ⟨hp, gs, dr, tk, os⟩ := s
    obtain ⟨hH, h⟩ := h
    have isub := sub_enumerate
    have it : ∀ {A' : Around} {E : Value → Shared → Prop} {Q : Value → Shared → Prop}, Q (.ref hp.objs.size) ⟨hp.push o, gs, dr, tk, os⟩ → wpAny (model prog w) A' (pyIter v) Q E ⟨hp, gs, dr, tk, os⟩ :=
      fun q => B.iter prog w _ _ ⟨hp, gs, dr, tk, os⟩ _ hH q
    wp_walk using it
    refine wpAny_stack_any fun st => wpAny_pure ?_
    split
    · rename_i c _ _ _ _ _
      cases (c == Value.type "enumerate") <;> (wp_walk using it; exact ⟨_, rfl, h⟩)
    · wp_walk using it
      exact ⟨_, rfl, h⟩
theorem enum_made {prog : Program} {w : World} {A : Around} {E : Value → Shared → Prop} {s : Shared} {v : Value} {o : Obj} {H : Heap → Prop} {Q : Value → Shared → Prop} (B : Begins v o H) (hH : H s.heap)
    (h : ∀ h', IsEnum h' (s.heap.objs.size + 1) s.heap.objs.size 0 .none → h'.get? s.heap.objs.size = some o → (∀ b ob, s.heap.get? b = some ob → h'.get? b = some ob) → Q (.ref (s.heap.objs.size + 1)) { s with heap := h' }) :
    wpAny (model prog w) A (call (.type "enumerate") [v]) Q E s := by
  refine callType_new F.called_enumerate (by decide) (F.typeCall_enumerate_1 _) (F.newCall_enumerate_1 _) (fun obj => F.args_object_init_2 obj _) F.entry_enumerate_new (enum_new1 B) ⟨hH, ?_⟩
  have hz : (s.heap.push o).objs.size = s.heap.objs.size + 1 := Heap.size_push ..
  show _ ∧ _
  rw [hz]
  have he := Heap.get?_push_size (s.heap.push o) (o := { cls := .type "enumerate", data := .fields #[.none, .bool false, .ref s.heap.objs.size, rawInt 0, .none, .none] }) rfl
  rw [hz] at he
  exact ⟨⟨_, he, rfl⟩, h _ he (Heap.get?_push_of_some _ (Heap.get?_push_size _ B.free)) fun b ob x => Heap.get?_push_of_some _ (Heap.get?_push_of_some _ x)⟩
/-- the tuple at a as it stands at each turn, each item in a new pair -/
def Itn (K : PySem.W.Frag) (a : Addr) (n : Nat) : It :=
  ⟨fun i H => ∃ (xs : List V) (x : V), SqT K H a xs ∧ xs.length = n ∧ xs[i]? = some x, fun i H v H' => ∃ T x, v = .ref T ∧ H T = none ∧ H' = upd H T (.tup [.int (i : Nat), x]) ∧ ∀ xs, SqT K H a xs → xs[i]? = some x, fun i H => ∃ xs : List V, SqT K H a xs ∧ xs.length = n ∧ n ≤ i⟩
theorem tup_apart {h : Heap} {a it : Addr} {n : Nat} {items : Array Value} (hi : h.IsTupleIter it a n) (ht : h.IsTuple a items) : a ≠ it := fun z => by
  obtain ⟨o, ho, hc, _⟩ := hi
  obtain ⟨o', ho', hc', _⟩ := ht
  rw [z, ho] at ho'
  cases ho'
  rw [hc] at hc'
  exact absurd hc' (by decide)
theorem enum_apart {h : Heap} {a e it : Addr} {i : Int} {old : Value} {items : Array Value} (hi : IsEnum h e it i old) (ht : h.IsTuple a items) : a ≠ e := fun z => by
  obtain ⟨o', ho', hc', _⟩ := ht
  have hi' : h.get? e = some _ := hi
  rw [z, hi'] at ho'
  cases ho'
  have hc2 : Value.type "enumerate" = Value.type "tuple" := hc'
  exact absurd hc2 (by decide)
theorem turn_enumT {P : Program} {w : World} {K : PySem.W.Frag} {elts : List Expr} {kk : Nat} {tpos : Pos} (a e it : Addr) (n : Nat) :
    Turn P w K (.Tuple elts kk tpos) (Itn K a n) [e, it] e (fun i h => (∃ old, IsEnum h e it ((i : Nat) : Int) old) ∧ h.IsTupleIter it a i ∧ e ≠ it ∧ i ≤ n) where
  mem := by simp
  obj := fun i h st b hb => by
    obtain ⟨⟨old, he⟩, ⟨o, ho, hc, hd⟩, _⟩ := st
    rcases (show b = e ∨ b = it by simpa using hb) with z | z
    · subst z; exact ⟨_, he, fun v q => nomatch q⟩
    · subst z; exact ⟨o, ho, fun v q => by rw [hd] at q; cases q⟩
  keep := fun i h h' st k => by
    obtain ⟨⟨old, he⟩, hi, hne, hin⟩ := st
    exact ⟨⟨old, k e (by simp) _ he⟩, hi.at fun o q => k it (by simp) o q, hne, hin⟩
  item := by
    intro X hP hw hK hc i pins s σ H E I hf st hg
    subst hP hw hK
    obtain ⟨⟨old, he⟩, hit, hne, hin⟩ := st
    obtain ⟨xs, x, hq, hxn, hx⟩ := hg
    obtain ⟨its, rv, p, hz⟩ := I.tuple hq
    have p1 : s.heap.IsTuple a its.toArray := p
    have hai := tup_apart hit p1
    have hae := enum_apart he p1
    obtain ⟨u, hu, ru⟩ := rv.get hx
    have hel : e < s.heap.objs.size := Heap.lt_size he
    have hil : it < s.heap.objs.size := by obtain ⟨_, q, _⟩ := hit; exact Heap.lt_size q
    have hlt : i < its.toArray.size := by rw [List.size_toArray, ← rv.length]; exact (List.getElem?_eq_some_iff.mp hx).1
    refine wpAny_pyNext_enum_itemD (Draws.tuple (A := X.A.in1) (prog := X.prog) (w := X.w) (show X.A.in1.handled = none from I.ok.hd hc) it a hai its.toArray) he ⟨hit, p1⟩ hlt hne (by simp [hne, Ne.symm hae]) fun y h' tk hy ho st' hT hsz hk => ?_
    have hyu : y = u := by
      have hu' : its.toArray[i]? = some u := by simpa using hu
      exact Option.some.inj (hy.symm.trans hu')
    subst hyu
    refine ⟨_, rfl, wpAny_letOwnedTupleGo_enum (s := { s with heap := h', toks := tk + 1 }) ho fun h2 he2 sb => ?_⟩
    have hT2 : h2.get? s.heap.objs.size = some { cls := .type "tuple", data := .seq #[.int i tk, y] } := (sb.2 _ (Nat.ne_of_gt hel)).trans hT
    have new : ObjOk X.prog X.w (upd H s.heap.objs.size (.tup [.int (i : Nat), x])) h2 s.heap.objs.size (.tup [.int (i : Nat), x]) :=
      ⟨by show 2 ≤ sizeLine; decide, [.int i tk, y], .cons ⟨_, rfl⟩ (.cons ru .nil), ⟨_, hT2, rfl, _, rfl⟩⟩
    have I1 : Inv X pins σ (upd H s.heap.objs.size (.tup [.int (i : Nat), x])) { s with heap := h2, toks := tk + 1 } :=
      I.turnedNew (ch := [e, it]) (fun b ob hb q => (sb.2 b (fun z => hb (by simp [z]))).trans (hk b ob (fun z => hb (by simp [z])) (fun z => hb (by simp [z])) q)) hf (Nat.le_refl _) new
    refine ⟨.ref s.heap.objs.size, _, I1, rfl, ⟨_, x, rfl, I.hok.fresh (Nat.le_refl _), rfl, fun ys hy => by rw [I.tuple_inj hy hq]; exact hx⟩, ⟨⟨y, ?_⟩, st'.1.at fun o q => (sb.2 it (Ne.symm hne)).trans q, hne, by have := (List.getElem?_eq_some_iff.mp hx).1; omega⟩, fun b hb => ?_⟩
    · rw [show ((i + 1 : Nat) : Int) = (i : Int) + 1 by omega]; exact he2
    · have hb' : b < s.heap.objs.size := by
        rcases (show b = e ∨ b = it by simpa using hb) with z | z
        · rw [z]; exact hel
        · rw [z]; exact hil
      rw [upd_ne (Nat.ne_of_lt hb')]
      exact (hf b hb).1
  done := by
    intro X hP hw hK hc i pins s σ H E I hf st hg
    subst hP hw hK
    obtain ⟨⟨old, he⟩, hit, hne, hin⟩ := st
    obtain ⟨xs, hq, hxn, hx⟩ := hg
    obtain ⟨its, rv, p, hz⟩ := I.tuple hq
    have p1 : s.heap.IsTuple a its.toArray := p
    have hai := tup_apart hit p1
    obtain ⟨f0, f1, f2, f3, f4, f5⟩ := hf it (by simp)
    have hl := rv.length
    have hi : i = its.toArray.size := by rw [List.size_toArray, ← hl]; omega
    subst hi
    exact wpAny_pyNext_enum_endD (Draws.tuple (A := X.A.in1) (prog := X.prog) (w := X.w) (show X.A.in1.handled = none from I.ok.hd hc) it a hai its.toArray) he ⟨hit, p1⟩ fun h' eb => ⟨rfl, I.turned (t' := s.toks) (fun b o hb q => eb b o hb q) f0 f1 f3 f4 f5⟩
  self := fun A i s Q E st h => by
    obtain ⟨⟨_, he⟩, _⟩ := st
    exact wpAny_pyIter_enum he h
def iEnA (K : PySem.W.Frag) (ta : TA) : TI := fun σ H R => ta σ H fun vs H1 => ∃ a xs, vs = [.ref a] ∧ ((SqL K H1 a xs ∧ R (Ite K a) H1) ∨ (SqT K H1 a xs ∧ R (Itn K a xs.length) H1))
theorem pi_enA {X : Cx} {e : Expr} {ta : TA} {p pos tpos : Pos} {elts : List Expr} {kk : Nat} (hg : Gl X "enumerate") (hm : X.mg "enumerate" = none) (ha : PA X [e] ta) (hs : starEach [e] X.env = [(false, eval e X.env)] := by rfl) :
    PI X (.Tuple elts kk tpos) (.Call (.Name "enumerate" p) [e] [] pos) (iEnA X.K ta) := by
  refine ⟨fun pins s σ H R I h => ?_⟩
  refine Call_ (ld_blt I hg hm boot_enumerate (PyProof.Rows.callWith_type1 (thn (ha.run pos pins s σ H _ I h) fun us s1 ⟨vs, H1, I1, r1, q1⟩ => ?_) hs rfl))
  have fp : ∀ b ∈ [s1.heap.objs.size + 1, s1.heap.objs.size], FpOk X pins H1 b := fun b hb => by
    have hle : s1.heap.objs.size ≤ b := by
      rcases (show b = s1.heap.objs.size + 1 ∨ b = s1.heap.objs.size by simpa using hb) with z | z
      · rw [z]; exact Nat.le_succ _
      · rw [z]; exact Nat.le_refl _
    exact I1.fpOk hle (I1.hok.fresh hle)
  obtain ⟨a, xs, ex, ⟨hq, q⟩ | ⟨hq, q⟩⟩ := q1
  · subst ex
    cases r1 with
    | cons r rr =>
      cases rr
      cases r
      obtain ⟨its, rv, p', hz⟩ := I1.list hq
      refine enum_made (begins_list a its.toArray) p'.isList fun h' he hi hk => wpAny_pyIter_enum he ?_
      exact ⟨s1.heap.objs.size + 1, [s1.heap.objs.size + 1, s1.heap.objs.size], _, _, H1, rfl, I1.kept (t' := s1.toks) hk, turn_enum a (s1.heap.objs.size + 1) s1.heap.objs.size, ⟨⟨.none, he⟩, ⟨_, hi, rfl, rfl⟩, Nat.succ_ne_self _⟩, fp, q⟩
  · subst ex
    cases r1 with
    | cons r rr =>
      cases rr
      cases r
      obtain ⟨its, rv, p', hz⟩ := I1.tuple hq
      have p1 : s1.heap.IsTuple a its.toArray := p'
      refine enum_made (begins_tuple a its.toArray) p1 fun h' he hi hk => wpAny_pyIter_enum he ?_
      exact ⟨s1.heap.objs.size + 1, [s1.heap.objs.size + 1, s1.heap.objs.size], _, _, H1, rfl, I1.kept (t' := s1.toks) hk, turn_enumT a (s1.heap.objs.size + 1) s1.heap.objs.size xs.length, ⟨⟨.none, he⟩, ⟨_, hi, rfl, rfl⟩, Nat.succ_ne_self _, Nat.zero_le _⟩, fp, q⟩
/-! as items -/
def enD (ds : List D) : List D := ds.zipIdx.map fun p => .tup [.int (p.2 : Nat), p.1]
theorem enD_len (ds : List D) : (enD ds).length = ds.length := by unfold enD; simp
theorem enD_get {ds : List D} {i : Nat} {d : D} (h : (enD ds)[i]? = some d) : ∃ e, ds[i]? = some e ∧ d = .tup [.int (i : Nat), e] := by
  unfold enD at h
  rw [List.getElem?_map, List.getElem?_zipIdx] at h
  cases e1 : ds[i]? with
  | none => rw [e1] at h; simp at h
  | some e => rw [e1] at h; simp at h; exact ⟨e, rfl, h.symm⟩
theorem iter_pair {mg : Mg} {G1 : Hp} {ds : List D} {i : Nat} {d : D} {y : V} {H G : Hp} {T : Addr} (hT : H T = none) (sg : Same G1 G) (sh : Same G H) (ry : ∀ e, ds[i]? = some e → Rp mg G1 y e) (hd : (enD ds)[i]? = some d) :
    ∃ G', Ext G H G' (upd H T (.tup [.int (i : Nat), y])) ∧ Rp mg G' (.ref T) d := by
  obtain ⟨e, h1, rfl⟩ := enD_get hd
  have x := Ext.alloc sh hT (.tup [.int (i : Nat), y])
  exact ⟨_, x, .tup upd_same (.cons (.int _) (.cons ((ry e h1).mono (sg.trans x.hG)) .nil))⟩
theorem iter_enT {mg : Mg} {K : PySem.W.Frag} {G : Hp} {a : Addr} {xs : List V} {ds : List D} (h : ∀ H, Same G H → SqT K H a xs) (r : RpA mg G xs ds) : IterOk mg G (Itn K a xs.length) (enD ds) where
  go := fun i H s hi => ⟨xs, xs[i]'(by rw [r.length]; rw [enD_len] at hi; exact hi), h H s, rfl, List.getElem?_eq_getElem _⟩
  stop := fun i H s hi => ⟨xs, h H s, rfl, by rw [r.length]; rw [enD_len] at hi; exact hi⟩
  yld := fun i H x H' d s hy hd G' sg sh => by
    obtain ⟨T, y, rfl, hT, rfl, q⟩ := hy
    refine iter_pair hT sg sh (fun e he => ?_) hd
    obtain ⟨v, e2, rv⟩ := r.get he
    rw [q xs (h _ s)] at e2
    cases e2
    exact rv
theorem iter_enL {mg : Mg} {K : PySem.W.Frag} {G : Hp} {a : Addr} {xs : List V} {ds : List D} (h : ∀ H, Same G H → SqL K H a xs) (r : RpA mg G xs ds) : IterOk mg G (Ite K a) (enD ds) where
  go := fun i H s hi => ⟨xs, xs[i]'(by rw [r.length]; rw [enD_len] at hi; exact hi), h H s, List.getElem?_eq_getElem _⟩
  stop := fun i H s hi => ⟨xs, h H s, by rw [r.length]; rw [enD_len] at hi; exact hi⟩
  yld := fun i H x H' d s hy hd G' sg sh => by
    obtain ⟨T, y, rfl, hT, rfl, q⟩ := hy
    refine iter_pair hT sg sh (fun e he => ?_) hd
    obtain ⟨v, e2, rv⟩ := r.get he
    rw [q xs (h _ s)] at e2
    cases e2
    exact rv
section
variable {Φ : Fam}
/-- enumerate of a list that stands still or a tuple -/
theorem si_enum {elts : List Expr} {kk : Nat} {tpos p pos : Pos} {e : Expr} {m : M D} (h : SE Φ e m) (hg : Φ.sc.names.lookup ("enumerate" : Str) = some .globalImplicit) (hm : Φ.mg "enumerate" = none) (hst : ∀ env, starEach [e] env = (false, eval e env) :: starEach [] env := by intro _; first | rfl | with_unfolding_all rfl) :
    SI Φ (.Tuple elts kk tpos) (.Call (.Name "enumerate" p) [e] [] pos) (bindM m fun d => optM ((seqF d).map fun q => enD q.2)) := by
  obtain ⟨t, q, h⟩ := h
  refine ⟨iEnA Φ.K (tCons t tNil), fun i => by rw [← Φ.hK i]; exact pi_enA (Φ.gl hg i) (Φ.mgn hm i) (pa1 (q i) hst) (hst _), fun F G ρ σ H Q R s => ?_⟩
  refine h F G ρ σ H _ R (s.bind.imp (fun d ρ1 q G1 H1 v R1 s1 r => ?_) fun _ _ z => z)
  obtain ⟨z, e1, q⟩ := q.opt
  obtain ⟨⟨k, ds⟩, e2, rfl⟩ := Option.map_eq_some_iff.mp e1
  cases r with
  | tup e r => cases e2; exact ⟨_, _, rfl, .inr ⟨SqT.of (R1.sub _ _ e), q G1 H1 _ R1 s1 (iter_enT (fun H' s' => SqT.of (s' _ _ e)) r)⟩⟩
  | lst e r => cases e2; exact ⟨_, _, rfl, .inl ⟨SqL.of (R1.sub _ _ e), q G1 H1 _ R1 s1 (iter_enL (fun H' s' => SqL.of (s' _ _ e)) r)⟩⟩
  | scr e => cases e2; exact ⟨_, _, rfl, .inl ⟨.inl (.inr ⟨_, R1.sub _ _ e⟩), q G1 H1 _ R1 s1 (iter_enL (fun H' s' => .inl (.inr ⟨_, s' _ _ e⟩)) (RpA.ofInts _))⟩⟩
  | _ => cases e2
end
end Fl
end

section
set_option Elab.async false
set_option linter.all false
set_option maxRecDepth 100000
set_option autoImplicit false
/-! Fl, part M: a new object handed on; join, bit_length, repeats, min and max of tuples. -/
namespace Fl
open PySem PySem.Spec PyProof.Rows L2

/-! ### one new object among the arguments -/
theorem RpA.same {mg : Mg} {G G' : Hp} (s : Same G G') {vs : List V} {ds : List D} (h : RpA mg G vs ds) : RpA mg G' vs ds := h.mono s
section
variable {mg : Mg} {F : Fr} {G G' : Hp} {ρ : Env} {σ : L2.St} {H H' : Hp}
theorem Rel.plus (R : Rel mg F G ρ σ H) {a : Addr} {w : Dv} (N : NewO mg F G ρ σ H a w) : Rel mg F G (ρ ++ [some w]) (σ ++ [some (.ref a)]) H where
  len := by simp [R.len]
  sub := R.sub
  g0 := R.g0
  h0 := R.h0
  sep := R.sep
  pure := fun i d e => by
    rcases Nat.lt_trichotomy i ρ.length with h | h | h
    · rw [List.getElem?_append_left h] at e
      obtain ⟨v, h1, h2⟩ := R.pure i d e
      exact ⟨v, by rw [List.getElem?_append_left (by rw [R.len]; exact h)]; exact h1, h2⟩
    · subst h
      simp at e
      subst e
      exact absurd N.np (by simp [Dv.isP])
    · rw [List.getElem?_eq_none (by simp; omega)] at e; cases e
  own := fun i u e p => by
    rcases Nat.lt_trichotomy i ρ.length with h | h | h
    · rw [List.getElem?_append_left h] at e
      obtain ⟨b, h1, h2⟩ := R.own i u e p
      exact ⟨b, by rw [List.getElem?_append_left (by rw [R.len]; exact h)]; exact h1, h2⟩
    · subst h
      simp at e
      subst e
      refine ⟨a, by rw [← R.len]; simp, N.g, N.own, fun _ => N.h0, fun z => ?_⟩
      rw [N.nio] at z; cases z
    · rw [List.getElem?_eq_none (by simp; omega)] at e; cases e
  dist := fun i j u x b hne e1 e2 p1 p2 s1 s2 => by
    have key : ∀ (i : Nat) (u : Dv), (ρ ++ [some w])[i]? = some (some u) → (σ ++ [some (.ref a)])[i]? = some (some (.ref b)) → (i < ρ.length ∧ ρ[i]? = some (some u) ∧ σ[i]? = some (some (.ref b))) ∨ (i = ρ.length ∧ b = a) := fun i u e s => by
      rcases Nat.lt_trichotomy i ρ.length with h | h | h
      · rw [List.getElem?_append_left h] at e
        rw [List.getElem?_append_left (by rw [R.len]; exact h)] at s
        exact .inl ⟨h, e, s⟩
      · subst h
        rw [← R.len] at s
        simp at s
        exact .inr ⟨rfl, s.symm⟩
      · rw [List.getElem?_eq_none (by simp; omega)] at e; cases e
    rcases key i u e1 s1 with ⟨_, q1, q2⟩ | ⟨q1, q2⟩
    · rcases key j x e2 s2 with ⟨_, q3, q4⟩ | ⟨q3, q4⟩
      · exact R.dist i j u x b hne q1 q3 p1 p2 q2 q4
      · subst q4; exact N.slot i u q1 p1 q2
    · rcases key j x e2 s2 with ⟨_, q3, q4⟩ | ⟨q3, q4⟩
      · subst q2; exact N.slot j x q3 p2 q4
      · omega
  ios := fun i b h => by
    obtain ⟨h1, u, h2, h3⟩ := R.ios i b h
    have hl : i < ρ.length := (List.getElem?_eq_some_iff.mp h2).1
    exact ⟨by rw [List.getElem?_append_left (by rw [R.len]; exact hl)]; exact h1, u, by rw [List.getElem?_append_left hl]; exact h2, h3⟩
  fix := fun c h => by
    obtain ⟨⟨h1, h2⟩, h3⟩ := R.fix c h
    have hl : c.slot < ρ.length := (List.getElem?_eq_some_iff.mp h2).1
    exact ⟨⟨by rw [List.getElem?_append_left (by rw [R.len]; exact hl)]; exact h1, by rw [List.getElem?_append_left hl]; exact h2⟩, h3⟩
theorem Rel.minus {x : Option Dv} {y : Option V} (hi : ∀ i a, (i, a) ∈ F.ios → i < ρ.length) (hx : ∀ c : Cau, mg.ex = some c → c.slot < ρ.length) (R : Rel mg F G (ρ ++ [x]) (σ ++ [y]) H) : Rel mg F G ρ σ H := by
  have hl : σ.length = ρ.length := by have := R.len; simpa using this
  have up : ∀ {α : Type} (l : List α) (z : α) (i : Nat) (u : α), l[i]? = some u → (l ++ [z])[i]? = some u := fun l z i u e => by
    rw [List.getElem?_append_left (List.getElem?_eq_some_iff.mp e).1]; exact e
  have dn : ∀ {α : Type} (l : List α) (z : α) (i : Nat) (u : α), i < l.length → (l ++ [z])[i]? = some u → l[i]? = some u := fun l z i u h e => by
    rw [List.getElem?_append_left h] at e; exact e
  have ln : ∀ (i : Nat) (u : Option Dv), ρ[i]? = some u → i < ρ.length := fun i u e => (List.getElem?_eq_some_iff.mp e).1
  refine ⟨hl, R.sub, R.g0, R.h0, R.sep, fun i d e => ?_, fun i w e p => ?_, fun i j w u a hne e1 e2 p1 p2 s1 s2 => ?_, fun i a h => ?_, fun c h => ?_⟩
  · obtain ⟨v, h1, h2⟩ := R.pure i d (up _ _ _ _ e)
    exact ⟨v, dn _ _ _ _ (by rw [hl]; exact ln _ _ e) h1, h2⟩
  · obtain ⟨a, h1, h2⟩ := R.own i w (up _ _ _ _ e) p
    exact ⟨a, dn _ _ _ _ (by rw [hl]; exact ln _ _ e) h1, h2⟩
  · exact R.dist i j w u a hne (up _ _ _ _ e1) (up _ _ _ _ e2) p1 p2 (up _ _ _ _ s1) (up _ _ _ _ s2)
  · obtain ⟨h1, w, h2, h3⟩ := R.ios i a h
    have := hi i a h
    exact ⟨dn _ _ _ _ (by rw [hl]; exact this) h1, w, dn _ _ _ _ this h2, h3⟩
  · obtain ⟨⟨h1, h2⟩, h3⟩ := R.fix c h
    have := hx c h
    exact ⟨⟨dn _ _ _ _ (by rw [hl]; exact this) h1, dn _ _ _ _ this h2⟩, h3⟩
end
def HR1 (mg : Mg) (W : WX) (t : TA) (m : M (List Arg × Dv)) : Prop := ∀ (F : Fr) (G : Hp) (ρ : Env) (σ : L2.St) (H : Hp) (Q : List V → Hp → Prop), Rel mg F G ρ σ H →
  Sat (m ρ) (fun p ρ' => ∀ G' H' vs a, Rel mg F G' ρ' σ H' → Same G G' → NewO mg F G' ρ' σ H' a p.2 → ArgsV mg G' (σ ++ [some (.ref a)]) vs p.1 → Q vs H') (ExK mg W F) → t σ H Q
def SR1 (Φ : Fam) (es : List Expr) (m : M (List Arg × Dv)) : Prop := ∃ t, (∀ i, PA (Φ.X i) es t) ∧ HR1 Φ.mg Φ.W t m
theorem ArgsV.up {mg : Mg} {G : Hp} {σ : L2.St} {y : Option V} : ∀ {vs : List V} {as : List Arg}, ArgsV mg G σ vs as → ArgsV mg G (σ ++ [y]) vs as
  | _, _, .nil => .nil
  | _, _, .v e t => .v e (ArgsV.up t)
  | _, _, .r e t => .r (by rw [List.getElem?_append_left (List.getElem?_eq_some_iff.mp e).1]; exact e) (ArgsV.up t)
  | _, _, .b e t => .b (by rw [List.getElem?_append_left (List.getElem?_eq_some_iff.mp e).1]; exact e) (ArgsV.up t)
def consN (a : M Arg) (r : M (List Arg × Dv)) : M (List Arg × Dv) := bindM a fun x => bindM r fun p => pureM (x :: p.1, p.2)
def newM (m : M Dv) (r : M (List Arg)) : M (List Arg × Dv) := bindM m fun w => bindM r fun as ρ => .ok (.r ρ.length :: as, w) ρ
section
variable {Φ : Fam}
theorem sr1_v {e : Expr} {es : List Expr} {m : M D} {ms : M (List Arg × Dv)} (h : SE Φ e m) (hs : SR1 Φ es ms) (hst : ∀ env, starEach (e :: es) env = (false, eval e env) :: starEach es env := by intro _; first | rfl | with_unfolding_all rfl) : SR1 Φ (e :: es) (consN (argV m) ms) := by
  obtain ⟨t, p, h⟩ := h
  obtain ⟨u, q, hs⟩ := hs
  refine ⟨_, fun i => pa_cons (p i) (q i) (hst _), fun F G ρ σ H Q R s => ?_⟩
  refine h F G ρ σ H _ R (s.bind.bind.imp (fun d ρ1 q G1 H1 v R1 s1 r => ?_) fun _ _ z => z)
  refine hs F G1 ρ1 σ H1 _ R1 (q.bind.imp (fun ds ρ2 q G2 H2 vs a R2 s2 N r2 => ?_) fun _ _ z => z)
  exact q G2 H2 _ a R2 (s1.trans s2) N (.v (r.mono s2) r2)
theorem sr1_r {j : Nat} {x : Str} {pos : Pos} {es : List Expr} {ms : M (List Arg × Dv)} (hN : Φ.N[j]? = some x) (hv : Vis Φ.sc x) (hs : SR1 Φ es ms) (hd : (x == ("__debug__" : Str)) = false := by decide) (hcd : (x == ("__classdict__" : Str)) = false := by decide)
    (hst : ∀ env, starEach (.Name x pos :: es) env = (false, eval (.Name x pos) env) :: starEach es env := by intro _; first | rfl | with_unfolding_all rfl) : SR1 Φ (.Name x pos :: es) (consN (argR j) ms) := by
  obtain ⟨u, q, hs⟩ := hs
  refine ⟨_, fun i => pa_cons (pe_var (Φ.nx hN i) (Φ.vis hv i) hd hcd) (q i) (hst _), fun F G ρ σ H Q R s => ?_⟩
  have s := s.bind
  unfold argR at s
  cases e : ρ[j]? with
  | none => rw [e] at s; exact s.elim
  | some y =>
    cases y with
    | none => rw [e] at s; exact s.elim
    | some w =>
      rw [e] at s
      by_cases hp : w.isP = true
      · simp only [hp, if_true] at s; exact s.elim
      · simp only [hp] at s
        obtain ⟨a, h1, h2, h3, _⟩ := R.own j w e (by simpa using hp)
        refine ⟨_, h1, ?_⟩
        refine hs F G ρ σ H _ R (Sat.imp (Sat.bind s) (fun ds ρ2 q G2 H2 vs b R2 s2 N r2 => ?_) fun _ _ z => z)
        exact q G2 H2 _ b R2 s2 N (.r (by rw [List.getElem?_append_left (List.getElem?_eq_some_iff.mp h1).1]; exact h1) r2)
theorem sr1_b {j : Nat} {x : Str} {pos : Pos} {es : List Expr} {ms : M (List Arg × Dv)} (hN : Φ.N[j]? = some x) (hv : Vis Φ.sc x) (hs : SR1 Φ es ms) (hd : (x == ("__debug__" : Str)) = false := by decide) (hcd : (x == ("__classdict__" : Str)) = false := by decide)
    (hst : ∀ env, starEach (.Name x pos :: es) env = (false, eval (.Name x pos) env) :: starEach es env := by intro _; first | rfl | with_unfolding_all rfl) : SR1 Φ (.Name x pos :: es) (consN (argB j) ms) := by
  obtain ⟨u, q, hs⟩ := hs
  refine ⟨_, fun i => pa_cons (pe_var (Φ.nx hN i) (Φ.vis hv i) hd hcd) (q i) (hst _), fun F G ρ σ H Q R s => ?_⟩
  have s := s.bind
  unfold argB at s
  cases e : ρ[j]? with
  | none => rw [e] at s; exact s.elim
  | some y =>
    cases y with
    | none => rw [e] at s; exact s.elim
    | some w =>
      rw [e] at s
      by_cases hp : w.isP = true
      · simp only [hp, if_true] at s; exact s.elim
      · simp only [hp] at s
        obtain ⟨a, h1, h2, h3, _⟩ := R.own j w e (by simpa using hp)
        refine ⟨_, h1, ?_⟩
        refine hs F G ρ σ H _ R (Sat.imp (Sat.bind s) (fun ds ρ2 q G2 H2 vs b R2 s2 N r2 => ?_) fun _ _ z => z)
        exact q G2 H2 _ b R2 s2 N (.b (by rw [List.getElem?_append_left (List.getElem?_eq_some_iff.mp h1).1]; exact h1) r2)
theorem sr1_n {e : Expr} {es : List Expr} {m : M Dv} {ms : M (List Arg)} (h : SO Φ e m) (hs : SR Φ es ms) (hst : ∀ env, starEach (e :: es) env = (false, eval e env) :: starEach es env := by intro _; first | rfl | with_unfolding_all rfl) : SR1 Φ (e :: es) (newM m ms) := by
  obtain ⟨t, p, h⟩ := h
  obtain ⟨u, q, hs⟩ := hs
  refine ⟨_, fun i => pa_cons (p i) (q i) (hst _), fun F G ρ σ H Q R s => ?_⟩
  refine h F G ρ σ H _ R (s.bind.imp (fun w ρ1 q G1 H1 a R1 s1 N => ?_) fun _ _ z => z)
  obtain ⟨o, ho⟩ := N.own.some
  have g0 : F.G0 a = none := by
    cases z : F.G0 a with
    | none => rfl
    | some o => have y := N.g; rw [R1.g0 _ _ z] at y; cases y
  refine hs (F.pin a o) G1 ρ1 σ H1 _ (R1.pin N ho) (q.bind.imp (fun as ρ2 q G2 H2 vs R2 s2 r2 => ?_) fun c ρ' z => ?_)
  · obtain ⟨R3, e1, e2, e3⟩ := R2.unpin N.h0 g0 (fun i => R1.iosNe N i)
    have ow : Own Φ.mg G2 H2 a w := by
      have o1 := N.own
      cases w with
      | p d => exact absurd N.np (by simp [Dv.isP])
      | x => exact absurd N.np (by simp [Dv.isP])
      | o b ds => obtain ⟨xs, q1, q2⟩ := o1; rw [ho] at q1; cases q1; exact ⟨xs, e1, q2.mono s2⟩
      | k b ds => obtain ⟨xs, q1, q2⟩ := o1; rw [ho] at q1; cases q1; exact ⟨xs, e1, q2.mono s2⟩
    exact q G2 H2 _ a R3 (s1.trans s2) ⟨N.np, N.nio, e2, ow, N.h0, e3⟩ (.r (by rw [← R3.len]; simp) r2.up)
  · intro G' σ' H' cls od R' x
    exact z G' σ' H' cls od (R'.unpin N.h0 g0 (fun i => R1.iosNe N i)).1 x
end
def callN (f : List Dv → R) (ma : M (List Arg × Dv)) : M Dv := bindM ma fun p ρ => match callC f p.1 (ρ ++ [some p.2]) with
  | .ok w ρ' => if ρ'.length = ρ.length + 1 then .ok w (ρ'.take ρ.length) else .no
  | _ => .no
theorem NewO.minus {mg : Mg} {F : Fr} {G : Hp} {ρ : Env} {x : Option Dv} {σ : L2.St} {y : Option V} {H : Hp} {a : Addr} {w : Dv} (hl : σ.length = ρ.length) (N : NewO mg F G (ρ ++ [x]) (σ ++ [y]) H a w) : NewO mg F G ρ σ H a w :=
  ⟨N.np, N.nio, N.g, N.own, N.h0, fun j u e p s => by
    have h : j < ρ.length := (List.getElem?_eq_some_iff.mp e).1
    exact N.slot j u (by rw [List.getElem?_append_left h]; exact e) p (by rw [List.getElem?_append_left (by rw [hl]; exact h)]; exact s)⟩
theorem hx_callN {mg : Mg} {W : WX} {t : TA} {ma : M (List Arg × Dv)} {f : List Dv → R} (ha : HR1 mg W t ma) : HX mg W (tCallS (SpM mg f) (WE W) t) (callN f ma) := by
  intro F G ρ σ H Q R s
  refine ha F G ρ σ H _ R (s.bind.imp (fun p ρ1 q G1 H1 vs a R1 s1 N av => ?_) fun _ _ z => z)
  have Rp1 := R1.plus N
  refine call_core (Ex := fun _ _ => False) Rp1 av (fun _ _ _ _ _ e => e.elim) ?_
  cases hc : callC f p.1 (ρ1 ++ [some p.2]) with
  | no => rw [hc] at q; exact q.elim
  | ex c ρ' => rw [hc] at q; exact q.elim
  | ok w ρ' =>
    rw [hc] at q
    simp only at q
    split at q
    rotate_left
    · exact q.elim
    rename_i hlen
    intro G' H' v R' s' rn
    have hx : ∃ x, ρ' = ρ'.take ρ1.length ++ [x] := by
      obtain ⟨x, hx⟩ : ∃ x, ρ'[ρ1.length]? = some x := ⟨ρ'[ρ1.length]'(by omega), List.getElem?_eq_getElem _⟩
      refine ⟨x, ?_⟩
      have e1 : ρ'.drop ρ1.length = [x] := by
        rw [drop_cons hx, List.drop_eq_nil_of_le (by omega)]
      rw [← e1, List.take_append_drop]
    obtain ⟨x, hx⟩ := hx
    have hl : σ.length = (ρ'.take ρ1.length).length := by rw [R1.len, List.length_take]; omega
    rw [hx] at R' rn
    have R2 : Rel mg F G' (ρ'.take ρ1.length) σ H' := Rel.minus (fun i a h => by
      obtain ⟨_, u, h2, _⟩ := R1.ios i a h
      have := (List.getElem?_eq_some_iff.mp h2).1
      rw [List.length_take]; omega) (fun c h => by
      obtain ⟨⟨_, h2⟩, _⟩ := R1.fix c h
      have := (List.getElem?_eq_some_iff.mp h2).1
      rw [List.length_take]; omega) R'
    refine q G' H' v R2 (s1.trans s') ?_
    cases w with
    | p d => exact rn
    | x => obtain ⟨b, h1, N⟩ := rn; exact absurd N.nio (by simp [Dv.io])
    | o io ds => obtain ⟨b, h1, h2⟩ := rn; exact ⟨b, h1, h2.minus hl⟩
    | k io ds => obtain ⟨b, h1, h2⟩ := rn; exact ⟨b, h1, h2.minus hl⟩
section
variable {Φ : Fam}
theorem sx_callN {k : Nat} {x : Str} {p pos : Pos} {e : Expr} {es : List Expr} {m : M (List Arg × Dv)} {f : List Dv → R} (F : Fn Φ.P Φ.w Φ.K Φ.mg Φ.base k x f) (hk : k ≤ Φ.k) (hg : Φ.sc.names.lookup x = some .globalImplicit) (h : SR1 Φ (e :: es) m) (hd : (x == ("__debug__" : Str)) = false := by decide)
    (hst : ∀ env, starEach (e :: es) env = (false, eval e env) :: starEach es env := by intro _; first | rfl | with_unfolding_all rfl) (hs : ∀ pos env, (backTo pos (starEach es env)).any (fun x => x.1) = false := by intro _ _; first | rfl | with_unfolding_all rfl) (hc : Φ.cal = true := by rfl) :
    SX Φ (.Call (.Name x p) (e :: es) [] pos) (callN f m) := by
  obtain ⟨t, q, h⟩ := h
  obtain ⟨fa, fd, ps, h1, h2, h3, h4⟩ := F
  refine ⟨tCallS (SpM Φ.mg f) (WE Φ.W) t, fun i => ?_, hx_callN h⟩
  have F' : FnOk (Φ.X i).prog (Φ.X i).w (Φ.X i).K (Φ.X i).mg (Φ.X i).base (CX (Φ.X i).prog (Φ.X i).w) k fa fd ps (SpM Φ.mg f) := by
    rw [Φ.hP i, Φ.hw i, Φ.hK i, Φ.hmg i, Φ.hbase i]; exact h4
  exact pe_callS F' ((Φ.rm hc i).mono hk) (Φ.gl hg i) (Φ.mgn h1 i) (by rw [Φ.hK i]; exact h2) (by rw [Φ.hK i]; exact h3) (fun σ => passAt (Φ.takes i) σ) (q i) hd (hst _) (hs _ _)
end
end Fl
end

section
set_option Elab.async false
set_option linter.all false
set_option maxRecDepth 100000
set_option autoImplicit false
/-! Fl, part N: join, bit_length, repeats, min and max of tuples. -/
namespace Fl
open PySem PySem.Spec PyProof.Rows L2
/-! ### min, max of a tuple of ints -/
theorem minL_fold : ∀ (n : Int) (ns : List Int), ns.foldl min n = minL (n :: ns)
  | n, [] => rfl
  | n, m :: r => by
    rw [List.foldl_cons, minL_fold (min n m) r]
    have h : ∀ (r : List Int) (a b : Int), minL (min a b :: r) = min a (minL (b :: r)) := fun r a b => by
      cases r with
      | nil => rfl
      | cons c r => unfold minL; rw [Int.min_assoc]
    rw [h]
    rfl
theorem maxL_fold : ∀ (n : Int) (ns : List Int), ns.foldl max n = maxL (n :: ns)
  | n, [] => rfl
  | n, m :: r => by
    rw [List.foldl_cons, maxL_fold (max n m) r]
    have h : ∀ (r : List Int) (a b : Int), maxL (max a b :: r) = max a (maxL (b :: r)) := fun r a b => by
      cases r with
      | nil => rfl
      | cons c r => unfold maxL; rw [Int.max_assoc]
    rw [h]
    rfl
theorem alike_ints (ns : List Int) : PySem.W.AlikeAll (ns.map PyData.int) := by
  refine ⟨fun d hd e he => ?_, fun d hd => ?_⟩
  · obtain ⟨i, _, rfl⟩ := List.mem_map.mp hd
    obtain ⟨j, _, rfl⟩ := List.mem_map.mp he
    rfl
  · obtain ⟨i, _, rfl⟩ := List.mem_map.mp hd
    simp
theorem depth_ints : ∀ ns : List Int, PyData.depthAll (ns.map PyData.int) ≤ 1
  | [] => by simp [PyData.depthAll]
  | n :: r => by
    have := depth_ints r
    simp only [List.map_cons, PyData.depthAll, PyData.depth]
    omega
def rMinT (K : PySem.W.Frag) (g : List Int → Int) : List V → Hp → VK → Prop := fun vs H Q => ∃ (a : Addr) (n : Int) (ns : List Int), vs = [V.ref a] ∧ SqT K H a ((n :: ns).map V.int) ∧ Q (.int (g (n :: ns))) H
theorem cr_minT {X : Cx} (hc : X.calm = true) (hu : X.A.units + 100 < cLine) : CallR X (.builtin "min") (rMinT X.K minL) := by
  intro pins s σ H vs us Q I r h
  obtain ⟨a, n, ns, rfl, hT, q⟩ := h
  rw [Vals.ref1 r]
  obtain ⟨its, rv, p, hz⟩ := I.tuple hT
  have p1 : s.heap.IsTuple a its.toArray := p
  obtain ⟨as, rd⟩ := Dp.readsAll I _ _ _ (dpInts (n :: ns)) rv
  have d1 := depth_ints (n :: ns)
  refine PySem.W.min_tuple_data (I.ok.hd hc) p1 (by simpa using rd) (alike_ints (n :: ns)) (by simp only [List.map_cons] at d1; omega) fun i v h' tk bs hi r2 hk => ?_
  rw [PySem.W.minD_ints, minL_fold] at r2
  cases r2
  exact ⟨.int _, H, I.kept (t' := tk) hk, ⟨_, rfl⟩, q⟩
theorem cr_maxT {X : Cx} (hc : X.calm = true) (hu : X.A.units + 100 < cLine) : CallR X (.builtin "max") (rMinT X.K maxL) := by
  intro pins s σ H vs us Q I r h
  obtain ⟨a, n, ns, rfl, hT, q⟩ := h
  rw [Vals.ref1 r]
  obtain ⟨its, rv, p, hz⟩ := I.tuple hT
  have p1 : s.heap.IsTuple a its.toArray := p
  obtain ⟨as, rd⟩ := Dp.readsAll I _ _ _ (dpInts (n :: ns)) rv
  have d1 := depth_ints (n :: ns)
  refine PySem.W.max_tuple_data (I.ok.hd hc) p1 (by simpa using rd) (alike_ints (n :: ns)) (by simp only [List.map_cons] at d1; omega) fun i v h' tk bs hi r2 hk => ?_
  rw [PySem.W.maxD_ints, maxL_fold] at r2
  cases r2
  exact ⟨.int _, H, I.kept (t' := tk) hk, ⟨_, rfl⟩, q⟩
section
variable {Φ : Fam}
theorem Fam.hu3 (Φ : Fam) (i : Φ.ι) : (Φ.X i).A.units + 200 ≤ cLine := by have := (Φ.room i).2; omega
def mmQ (g : List Int → Int) (k : SK) (ds : List D) : Option D := match ds with
  | [] => none
  | d :: r => (intsOf (d :: r)).map fun ns => .int (g ns)
def rMM (K : PySem.W.Frag) (r : PySem.W.Frag → List V → Hp → VK → Prop) (g : List Int → Int) : List V → Hp → VK → Prop := fun vs H Q => r K vs H Q ∨ rMinT K g vs H Q
theorem qMaxA {mg : Mg} {K : PySem.W.Frag} : CallQ mg (rMM K rMax maxL) (mmQ maxL) := by
  intro G H v k ds z Q s sv e q
  cases ds with
  | nil => cases e
  | cons d r =>
    obtain ⟨ns, e1, rfl⟩ := Option.map_eq_some_iff.mp e
    by_cases hk : k = .t
    · subst hk
      obtain ⟨a, xs, rfl, ra, e2⟩ := sv
      have e3 := intsOf_map e1
      cases ns with
      | nil => cases e3
      | cons n ns =>
        rw [e3] at ra
        have ex := ra.ints
        subst ex
        exact .inr ⟨a, n, ns, rfl, SqT.of e2, q G H _ (Ext.refl s) (.int _)⟩
    · refine .inl (qMax G H v k (d :: r) (.int (maxL ns)) Q s sv ?_ q)
      cases k with
      | t => exact absurd rfl hk
      | l => exact e
      | s => exact e
theorem qMinA {mg : Mg} {K : PySem.W.Frag} : CallQ mg (rMM K rMin minL) (mmQ minL) := by
  intro G H v k ds z Q s sv e q
  cases ds with
  | nil => cases e
  | cons d r =>
    obtain ⟨ns, e1, rfl⟩ := Option.map_eq_some_iff.mp e
    by_cases hk : k = .t
    · subst hk
      obtain ⟨a, xs, rfl, ra, e2⟩ := sv
      have e3 := intsOf_map e1
      cases ns with
      | nil => cases e3
      | cons n ns =>
        rw [e3] at ra
        have ex := ra.ints
        subst ex
        exact .inr ⟨a, n, ns, rfl, SqT.of e2, q G H _ (Ext.refl s) (.int _)⟩
    · refine .inl (qMin G H v k (d :: r) (.int (minL ns)) Q s sv ?_ q)
      cases k with
      | t => exact absurd rfl hk
      | l => exact e
      | s => exact e
theorem cMaxA (hc : Φ.cal = true) (i : Φ.ι) : CallR (Φ.X i) (.builtin "max") (rMM Φ.K rMax maxL) := CallR.or (cMaxQ hc i) (by rw [← Φ.hK i]; exact cr_maxT (Φ.calm hc i) (by have := (Φ.room i).2; omega))
theorem cMinA (hc : Φ.cal = true) (i : Φ.ι) : CallR (Φ.X i) (.builtin "min") (rMM Φ.K rMin minL) := CallR.or (cMinQ hc i) (by rw [← Φ.hK i]; exact cr_minT (Φ.calm hc i) (by have := (Φ.room i).2; omega))

/-! ### texts -/
def strsOf : List D → Option (List Str)
  | [] => some []
  | .str s :: r => (strsOf r).map fun ss => s :: ss
  | _ => none
theorem strsOf_map : ∀ {ds : List D} {ns : List Str}, strsOf ds = some ns → ds = ns.map D.str
  | [], ns, h => by cases h; rfl
  | d :: r, ns, h => by
    cases d with
    | str s =>
      obtain ⟨ss, h1, rfl⟩ := Option.map_eq_some_iff.mp h
      rw [strsOf_map h1]; rfl
    | _ => cases h
theorem strsOf_strs : ∀ ns : List Str, strsOf (ns.map D.str) = some ns
  | [] => rfl
  | n :: r => by show (strsOf (r.map D.str)).map _ = _; rw [strsOf_strs r]; rfl
def joinF (d : D) (q : SK × List D) : Option D := match d with
  | .str a => match strsOf q.2 with
    | some ss => if (ss.map (·.length)).sum + ss.length * a.length ≤ 16777216 then some (.str (Txt.join a ss)) else none
    | none => none
  | _ => none
def tJoin (K : PySem.W.Frag) (to te : TE) : TE := tM1 (fun x xs H Q => ∃ a p, ∃ ys : List Str, x = .str a ∧ xs = [.ref p] ∧ (SqL K H p (ys.map V.str) ∨ SqT K H p (ys.map V.str)) ∧
      (ys.map (·.length)).sum + ys.length * a.length ≤ 16777216 ∧ Q (.str (Txt.join a ys)) H) to te
theorem se_join {o e : Expr} {apos pos : Pos} {mo : M D} {m : M (SK × List D)} (ho : SE Φ o mo) (h : SQ Φ e m) (hst : ∀ env, starEach [e] env = (false, eval e env) :: starEach [] env := by intro _; first | rfl | with_unfolding_all rfl)
    (hb : ∀ env, attributeBase o "join" env (eval o env) = eval o env := by intro _; first | rfl | with_unfolding_all rfl) (hl : (apos.endLine == pos.line) = true := by rfl) :
    SE Φ (.Call (.Attribute o "join" apos) [e] [] pos) (bindM mo fun d => match d with | .str a => bindM m fun q => optM (joinF (.str a) q) | _ => noM) := by
  obtain ⟨to, po, ho⟩ := ho
  obtain ⟨t, p, h⟩ := h
  refine ⟨tJoin Φ.K to t, fun i => by rw [← Φ.hK i]; exact pe_join (po i) (p i) (hst _) (hb _) hl, fun F G ρ σ H Q R s => ?_⟩
  refine ho F G ρ σ H _ R (s.bind.imp (fun d ρ1 q G1 H1 x R1 s1 r1 => ?_) fun _ _ z => z)
  cases r1 with
  | str a =>
    refine ⟨⟨a, rfl⟩, ?_⟩
    refine h F G1 ρ1 σ H1 _ R1 (q.bind.imp (fun qq ρ2 q2 G2 H2 y R2 s2 sv => ?_) fun _ _ z => z)
    obtain ⟨k, ds⟩ := qq
    obtain ⟨z, e1, q3⟩ := q2.opt
    unfold joinF at e1
    simp only at e1
    split at e1
    · rename_i ss hss
      split at e1
      · rename_i hz
        cases e1
        obtain ⟨b, ys, rfl, ra, hs⟩ := sv.sq (K := Φ.K)
        rw [strsOf_map hss] at ra
        have ex := ra.strs
        subst ex
        exact ⟨a, b, ss, rfl, rfl, hs, hz, q3 G2 H2 _ R2 (s1.trans s2) (.str _)⟩
      · cases e1
    · cases e1
  | _ => exact q.elim
/-! bit_length -/
theorem se_bits {o : Expr} {apos pos : Pos} {mo : M D} (ho : SE Φ o mo)
    (hb : ∀ env, attributeBase o "bit_length" env (eval o env) = eval o env := by intro _; first | rfl | with_unfolding_all rfl) (hl : (apos.endLine == pos.line) = true := by rfl) :
    SE Φ (.Call (.Attribute o "bit_length" apos) [] [] pos) (bindM mo fun d => optM (match d with | .int i => some (.int (Builtin.Int.intBits i : Nat)) | _ => none)) := by
  obtain ⟨to, po, ho⟩ := ho
  refine ⟨_, fun i => pe_bits (po i) (hb _) hl, fun F G ρ σ H Q R s => ?_⟩
  refine ho F G ρ σ H _ R (s.bind.imp (fun d ρ1 q G1 H1 x R1 s1 r1 => ?_) fun _ _ z => z)
  obtain ⟨z, e1, q⟩ := q.opt
  cases r1 with
  | int i => cases e1; exact ⟨i, rfl, q G1 H1 _ R1 s1 (.int _)⟩
  | _ => cases e1
/-! times -/
theorem RpA.rep {mg : Mg} {G : Hp} {vs : List V} {ds : List D} (h : RpA mg G vs ds) : ∀ n : Nat, RpA mg G (List.replicate n vs).flatten (List.replicate n ds).flatten
  | 0 => .nil
  | n + 1 => by
    rw [List.replicate_succ, List.replicate_succ, List.flatten_cons, List.flatten_cons]
    exact h.append (RpA.rep h n)
def mulF (d e : D) : Option D := match d, e with
  | .tup xs, .int k => if xs ≠ [] ∧ 2 ≤ k ∧ k ≤ 1000 ∧ xs.length ≤ 1000 then some (.tup (List.replicate k.toNat xs).flatten) else none
  | .lst xs, .int k => if 0 ≤ k ∧ k < 2 ^ 30 ∧ xs.length * k.toNat ≤ sizeLine then some (.lst (List.replicate k.toNat xs).flatten) else none
  | d, e => mulIF d e
theorem opMul : OpOk Φ (binaryOp .Mult) mulF := by
  obtain ⟨r, h1, h2⟩ := opMulI (Φ := Φ)
  refine ⟨fun x y H Q => r x y H Q ∨ (rRepT Φ.K x y H Q ∨ rRep x y H Q), fun i => OpR.or (h1 i) (OpR.or (by rw [← Φ.hK i]; exact op_repT) op_rep), ?_⟩
  intro G H x y d e z Q s rx ry hz q
  unfold mulF at hz
  split at hz
  · rename_i xs k
    split at hz
    · rename_i c
      cases hz
      cases ry
      cases rx with
      | @tup a vs _ e r =>
        refine .inr (.inl ⟨a, k, vs, rfl, rfl, SqT.of (s _ _ e), fun z => c.1 (by subst z; cases r; rfl), c.2.1, c.2.2.1, by rw [r.length]; exact c.2.2.2, fun p np => ?_⟩)
        have xt := Ext.alloc s np (.tup (List.replicate k.toNat vs).flatten)
        exact q _ _ _ xt (.tup upd_same ((r.rep _).mono xt.hG))
    · cases hz
  · rename_i xs k
    split at hz
    · rename_i c
      cases hz
      cases ry
      cases rx with
      | @lst a vs _ e r =>
        refine .inr (.inr ⟨a, k, vs, rfl, rfl, s _ _ e, by omega, by omega, by rw [r.length]; exact c.2.2, fun p np => ?_⟩)
        have xt := Ext.alloc s np (.lst (List.replicate k.toNat vs).flatten)
        exact q _ _ _ xt (.lst upd_same ((r.rep _).mono xt.hG))
    · cases hz
  · exact .inl (h2 G H x y d e z Q s rx ry hz q)
end
end Fl
end

section
set_option Elab.async false
set_option linter.all false
set_option maxRecDepth 100000
set_option autoImplicit false
/-! Fl, part O: raise, try with clauses 'except X as e' and 'except X'. -/
namespace Fl
open PySem PySem.Spec PyProof.Rows L2

/-! ### the rule of the context's level: clauses of both kinds, in any number -/
abbrev SuT := Addr → Value → Option Addr → TS
def endAs (Z : Ends) (i : Nat) : Ends := ⟨fun σ H => Z.nx (σ.set i none) H, Z.rt, fun σ H => Z.bk (σ.set i none) H, fun σ H => Z.ct (σ.set i none) H⟩
def wWays (K : PySem.W.Frag) (Wo : WX) (Z : Ends) : List (Value × Option Nat × SuT) → WX
  | [] => Wo
  | (c, oi, ts) :: r => fun cls d σ H => ∃ b, PySem.W.exmOne K cls c = some b ∧
      (b = true → ∀ a, H a = none → match oi with
        | none => ts a cls d Z σ H
        | some i => ts a cls d (endAs Z i) (σ.set i (some (.ref a))) H) ∧ (b = false → wWays K Wo Z r cls d σ H)
inductive WaysOk (X : Cx) : List ExceptHandler → List (Value × Option Nat × SuT) → Prop
  | nil : WaysOk X [] []
  | bare {x : Str} {c : Value} {ts : SuT} {st : Stmt} {sts : List Stmt} {p1 p2 : Pos} {hds : List ExceptHandler} {l : List (Value × Option Nat × SuT)} : Names X x c →
      (∀ (a : Addr) (oe : Obj) (cls : Value) (d : Option Addr) (pn : List (Addr × Obj)), Zc cls d oe → (∃ vs, oe.data = .fields vs) → PSs (X.suite a ((a, oe) :: pn)) (st :: sts) (ts a cls d)) → WaysOk X hds l →
      WaysOk X (.ExceptHandler (some (.Name x p1)) none (st :: sts) p2 :: hds) ((c, none, ts) :: l)
  | named {x n : Str} {i : Nat} {c : Value} {ts : SuT} {st : Stmt} {sts : List Stmt} {p1 p2 : Pos} {hds : List ExceptHandler} {l : List (Value × Option Nat × SuT)} : Names X x c → X.N[i]? = some n → X.env.kindOf n = some .local →
      (∀ (a : Addr) (oe : Obj) (cls : Value) (d : Option Addr) (pn : List (Addr × Obj)), Zc cls d oe → (∃ vs, oe.data = .fields vs) → PSs (X.suite a ((a, oe) :: pn)) (st :: sts) (ts a cls d)) → WaysOk X hds l →
      WaysOk X (.ExceptHandler (some (.Name x p1)) (some n) (st :: sts) p2 :: hds) ((c, some i, ts) :: l)
section
variable {X : Cx} {body : List Stmt} {hd0 : ExceptHandler} {hds : List ExceptHandler} {l : List (Value × Option Nat × SuT)} {pos : Pos} {tb : WX → TS} {Wo : WX}
theorem ps_ways (hs : X.stack = X.env :: X.outer) (hf : X.env.frame = some X.env.locals) (hN : X.N.Nodup) (tk : Takes X Wo)
    (hb : ∀ (W : WX) (pn : List (Addr × Obj)) (xe : Value → Shared → Prop), Takes (X.tr pn xe) W → PassesOwn (model X.prog X.w) X.A X.env xe → PSs (X.tr pn xe) body (tb W))
    (hw : WaysOk X (hd0 :: hds) l) : PS X (.Try body (hd0 :: hds) [] [] pos) (fun Z σ H => tb (wWays X.K Wo Z l) Z σ H) := by
  refine ⟨fun pins s σ H Z I h => ?_⟩
  have okX := I.ok
  have frs_ : X.A.frames = some (X.env :: X.outer) := okX.frames.trans (by rw [hs])
  refine wpAny_Try_except (wpAny_mono ((hb (wWays X.K Wo Z l) (X.pn ++ pins) (fun e t1 => wpAny (model X.prog X.w) X.A (noteFrame e X.env) (fun _ t2 => wpAny (model X.prog X.w) X.A (setFlight e none) (fun _ t3 =>
    wpAny (model X.prog X.w) X.A (handleBy e X.env (hd0 :: hds)) (L2.SP X pins Z) X.xe t3) X.xe t2) X.xe t1) (fun u t xx => ?_) PassesOwn.looking).run [] s σ H Z (I.toTry _) h) (fun fl t hsp => ?_) fun _ _ he => he)
  · obtain ⟨a, B, sI, pins1, σ1, H1, cls, d, rfl, J0, nb, up, sky, na, os, ag, w⟩ := xx
    have J : Inv X pins σ1 H1 sI := J0.ofTry okX
    rw [hs] at sky
    show wpAny _ X.A (noteFrame (.ref a) X.env) _ _ _
    refine Sky.land Zc.steady frs_ hf sky fun h3 fly up3 => ?_
    have JL : Inv X pins σ1 H1 { t with heap := h3 } := J.landed nb fly.1 (up.trans up3) os ag
    obtain ⟨ob, vs, hob, hzc, hdt⟩ := fly.there
    have off : a ∉ frs (X.env :: X.outer) := fun hm => by
      obtain ⟨_, o2, g1, g2⟩ := fly.2.2.1.mem hm
      rw [hob] at g1
      cases g1
      exact g2 _ hdt
    have offL : a ≠ X.env.locals := fun z => off (List.mem_filterMap.mpr ⟨X.env, List.mem_cons_self, by rw [hf, z]⟩)
    have offF : a ∉ X.fs := fun hm => by
      obtain ⟨e, he, q⟩ := List.mem_filterMap.mp hm
      exact off (List.mem_filterMap.mpr ⟨e, List.mem_cons_of_mem _ he, q⟩)
    have JS := JL.suite hob hdt na offL offF
    have typ : PySem.W.Looks (model X.prog X.w) h3 (typeOf (.ref a)) cls := fun _ _ _ _ k q => wpAny_typeOf_ref (k _ _ hob) (by rw [hzc.1]; exact q)
    have ask : ∀ {x : Str} {c : Value} {p1 : Pos}, Names X x c → ∀ {Q : Value → Shared → Prop} {E : Value → Shared → Prop}, Q c { t with heap := h3 } → wpAny (model X.prog X.w) (X.A.mark (some (.ref a))) (eval (.Name x p1) X.env) Q E { t with heap := h3 } := fun {x c p1} nm {Q E} q => by
      obtain ⟨hg, hdbg, hm | ⟨hm, hv, hnn⟩⟩ := nm
      · exact ld_glob (X := X.suite a ((a, ob) :: (X.pn ++ pins))) JS hg hm q hdbg
      · exact ld_blt (X := X.suite a ((a, ob) :: (X.pn ++ pins))) JS hg hm hv q hnn hdbg
    have run : ∀ {hds1 : List ExceptHandler} {l1 : List (Value × Option Nat × SuT)}, WaysOk X hds1 l1 → wWays X.K Wo Z l1 cls d σ1 H1 → wpAny (model X.prog X.w) X.A (handleBy (.ref a) X.env hds1) (L2.SP X pins Z) X.xe { t with heap := h3 } := by
      intro hds1 l1 hk
      induction hk with
      | nil =>
        intro w
        refine wpAny_handleBy_nil ?_
        obtain ⟨_, _, _, oe, vs1, T, oT, ts1, g1, _, g2, g3, _⟩ := id fly
        unfold PySem.passOn
        refine wpAny_bind (wpAny_field g1 g2 g3 ?_)
        rw [if_neg (show ¬ ((Value.ref T == Value.none) = true) from by simp)]
        have out : wpAny (model X.prog X.w) X.A (setFlight (.ref a) X.env.frame) (fun _ t4 => wpAny (model X.prog X.w) X.A (throw (.ref a) : Sem Flow) (L2.SP X pins Z) X.xe t4) X.xe { t with heap := h3 } := by
          rw [hf]
          refine HandSPX.setFlight_upZ fly fun h4 fly4 up4 => wpAny_throw (tk _ _ ⟨a, B, sI, pins, σ1, H1, cls, d, rfl, J, nb, (up.trans up3).trans up4, .inr (.inr (by rw [hs]; exact fly4)), na, os, ag, w⟩)
        first
          | exact wpAny_bind (wpAny_pure (wpAny_bind out))
          | exact wpAny_bind out
      | @bare x c ts st sts p1 p2 hds2 l2 nm su r ih =>
        intro w
        obtain ⟨b, hx, yes, no⟩ := w
        refine wpAny_handleBy_cons (codeAny_handlers_test (ask nm ((PySem.W.exm_one (M := model X.prog X.w) JL.kIn typ hx).here ?_))) (by intro q; cases q)
        cases b with
        | false => exact ih (no rfl)
        | true =>
          refine codeAny_handlers_suite (HandSPX.lands_againZ fly fun h4 fly4 up4 => ?_)
          have J4 : Inv X pins σ1 H1 { t with heap := h4 } := J.landed nb fly4.1 ((up.trans up3).trans up4) os ag
          obtain ⟨ob4, vs4, k1, k2, k3⟩ := fly4.there
          refine wpAny_mono ((su a ob4 cls d (X.pn ++ pins) k2 ⟨_, k3⟩).run [] _ _ H1 _ (J4.suite k1 k3 na offL offF) (yes rfl a na)) (fun fl t6 hsp => ?_) fun _ _ z => False.elim z
          cases fl with
          | next => obtain ⟨σ6, H6, S6, q6⟩ := hsp; exact ⟨_, _, S6.unsuite okX, q6⟩
          | brk => obtain ⟨σ6, H6, S6, q6⟩ := hsp; exact ⟨_, _, S6.unsuite okX, q6⟩
          | cont => obtain ⟨σ6, H6, S6, q6⟩ := hsp; exact ⟨_, _, S6.unsuite okX, q6⟩
          | ret u => obtain ⟨v6, σ6, H6, S6, r6, q6⟩ := hsp; exact ⟨_, _, _, S6.unsuite okX, r6, q6⟩
      | @named x n i c ts st sts p1 p2 hds2 l2 nm hi hln su r ih =>
        intro w
        obtain ⟨b, hx, yes, no⟩ := w
        refine wpAny_handleBy_cons (codeAny_handlers_test (ask nm ((PySem.W.exm_one (M := model X.prog X.w) JL.kIn typ hx).here ?_))) (by intro q; cases q)
        cases b with
        | false => exact ih (no rfl)
        | true =>
          refine codeAny_handlers_suite_as (HandSPX.lands_againZ fly fun h4 fly4 up4 => ?_)
          have J4 : Inv X pins σ1 H1 { t with heap := h4 } := J.landed nb fly4.1 ((up.trans up3).trans up4) os ag
          obtain ⟨ob4, vs4, k1, k2, k3⟩ := fly4.there
          refine store_ok (X := X.suite a ((a, ob4) :: (X.pn ++ pins))) (v := .ref a) (J4.suite k1 k3 na offL offF) hN hi (.inl hln) rfl (fun t5 S5 => ?_) (.inr hln)
          refine wpAny_mono ((su a ob4 cls d (X.pn ++ pins) k2 ⟨_, k3⟩).run [] t5 _ H1 _ S5 (yes rfl a na)) (fun fl t6 hsp => ?_) fun _ _ z => False.elim z
          have drop_ : ∀ {σ6 : L2.St} {H6 : Hp} {Q : Shared → Prop}, Inv (X.suite a ((a, ob4) :: (X.pn ++ pins))) [] σ6 H6 t6 → (∀ t7, Inv X pins (σ6.set i none) H6 t7 → Q t7) →
              wpAny (model X.prog X.w) X.A (do bindName X.env n .none; unbindBehindTheSuite X.env n p2) (fun _ t7 => Q t7) X.xe t6 := fun {σ6 H6 Q} S6 q => gone_ok (S6.unsuite okX) hN hi hln q
          cases fl with
          | next => obtain ⟨σ6, H6, S6, q6⟩ := hsp; exact drop_ S6 fun t7 J7 => ⟨_, _, J7, q6⟩
          | brk => obtain ⟨σ6, H6, S6, q6⟩ := hsp; exact drop_ S6 fun t7 J7 => ⟨_, _, J7, q6⟩
          | cont => obtain ⟨σ6, H6, S6, q6⟩ := hsp; exact drop_ S6 fun t7 J7 => ⟨_, _, J7, q6⟩
          | ret u => obtain ⟨v6, σ6, H6, S6, r6, q6⟩ := hsp; exact drop_ S6 fun t7 J7 => ⟨_, _, _, J7, r6, q6⟩
    exact run hw w
  · cases fl with
    | next => obtain ⟨σ1, H1, J1, q⟩ := hsp; exact wpAny_execs_nil ⟨σ1, H1, J1.ofTry okX, q⟩
    | brk => obtain ⟨σ1, H1, J1, q⟩ := hsp; exact ⟨σ1, H1, J1.ofTry okX, q⟩
    | cont => obtain ⟨σ1, H1, J1, q⟩ := hsp; exact ⟨σ1, H1, J1.ofTry okX, q⟩
    | ret u => obtain ⟨v, σ1, H1, J1, r, q⟩ := hsp; exact ⟨v, σ1, H1, J1.ofTry okX, r, q⟩
end
end Fl
end

section
set_option Elab.async false
set_option linter.all false
set_option maxRecDepth 100000
set_option autoImplicit false
/-! Fl, part P: raise and try as mirrors. -/
namespace Fl
open PySem PySem.Spec PyProof.Rows L2

def Fam.tr (Φ : Fam) (W : WX) : Fam where
  ι := { q : Φ.ι × List (Addr × Obj) × (Value → Shared → Prop) // Takes ((Φ.X q.1).tr q.2.1 q.2.2) W ∧ PassesOwn (model (Φ.X q.1).prog (Φ.X q.1).w) (Φ.X q.1).A (Φ.X q.1).env q.2.2 }
  X := fun q => (Φ.X q.1.1).tr q.1.2.1 q.1.2.2
  P := Φ.P
  w := Φ.w
  K := Φ.K
  mg := Φ.mg
  base := Φ.base
  N := Φ.N
  sc := Φ.sc
  sc0 := Φ.sc0
  k := Φ.k
  W := W
  hP := fun q => Φ.hP q.1.1
  hw := fun q => Φ.hw q.1.1
  hK := fun q => Φ.hK q.1.1
  hmg := fun q => Φ.hmg q.1.1
  hbase := fun q => Φ.hbase q.1.1
  hN := fun q => Φ.hN q.1.1
  hsc := fun q => Φ.hsc q.1.1
  nd := Φ.nd
  cal := Φ.cal
  calm := fun h q => Φ.calm h q.1.1
  dfn := Φ.dfn
  hdfn := fun h q => ⟨(Φ.hdfn h q.1.1).stack, (Φ.hdfn h q.1.1).frame, (Φ.hdfn h q.1.1).kind, (Φ.hdfn h q.1.1).ex⟩
  room := fun q => Φ.room q.1.1
  hdl := fun h q => Φ.hdl h q.1.1
  takes := fun q => q.2.1
  own := fun q => q.2.2
  hfn := fun q => Φ.hfn q.1.1
  hloc := Φ.hloc
/-- an except suite: cu where the exception stands, cls and d its class and its dict -/
def Fam.sui (Φ : Fam) (a : Addr) (cu : Option Cau) (cls : Value) (d : Option Addr) : Fam where
  ι := { q : Φ.ι × Obj × List (Addr × Obj) // Zc cls d q.2.1 ∧ ∃ vs, q.2.1.data = .fields vs }
  X := fun q => (Φ.X q.1.1).suite a ((a, q.1.2.1) :: q.1.2.2)
  P := Φ.P
  w := Φ.w
  K := Φ.K
  mg := ⟨Φ.mg.f, cu⟩
  base := Φ.base
  N := Φ.N
  sc := Φ.sc
  sc0 := Φ.sc0
  k := Φ.k
  W := W0
  hP := fun q => Φ.hP q.1.1
  hw := fun q => Φ.hw q.1.1
  hK := fun q => Φ.hK q.1.1
  hmg := fun q => Φ.hmg q.1.1
  hbase := fun q => Φ.hbase q.1.1
  hN := fun q => Φ.hN q.1.1
  hsc := fun q => Φ.hsc q.1.1
  nd := Φ.nd
  cal := false
  calm := fun h => nomatch h
  dfn := false
  hdfn := fun h => nomatch h
  room := fun q => Φ.room q.1.1
  hdl := fun h => nomatch h
  takes := fun q => takes0
  own := fun q => PassesOwn.never
  hfn := fun q => Φ.hfn q.1.1
  hloc := Φ.hloc

/-! ### in and out of a suite -/
section
variable {f : Str → Option Value} {cu : Option Cau} {e1 e2 : Option Cau} {F : Fr} {G G' : Hp} {ρ : Env} {σ : L2.St} {H H' : Hp}
mutual
theorem Rp.ex : ∀ {v : V} {d : D}, Rp ⟨f, e1⟩ G v d → Rp ⟨f, e2⟩ G v d
  | _, .non, .non => .non
  | _, .bl _, .bl _ => .bl _
  | _, .int _, .int _ => .int _
  | _, .str _, .str _ => .str _
  | _, .tup _, .tup e r => .tup e (RpA.ex r)
  | _, .lst _, .lst e r => .lst e (RpA.ex r)
  | _, .scr _, .scr e => .scr e
  | _, .fn _, .fn e => .fn e
  | _, .dct _, .dct e r => .dct e (RpK.ex r)
theorem RpA.ex : ∀ {vs : List V} {ds : List D}, RpA ⟨f, e1⟩ G vs ds → RpA ⟨f, e2⟩ G vs ds
  | _, [], .nil => .nil
  | _, _ :: _, .cons r t => .cons (Rp.ex r) (RpA.ex t)
theorem RpK.ex : ∀ {vs : List (Key × V)} {ds : List (Key × D)}, RpK ⟨f, e1⟩ G vs ds → RpK ⟨f, e2⟩ G vs ds
  | _, [], .nil => .nil
  | _, _ :: _, .cons r t => .cons (Rp.ex r) (RpK.ex t)
end
theorem KvA.ex : ∀ {vs : List (Key × V)} {ds : List (Key × D)}, KvA ⟨f, e1⟩ G vs ds → KvA ⟨f, e2⟩ G vs ds
  | _, _, .nil => .nil
  | _, _, .cons r t => .cons ⟨r.1, Rp.ex r.2⟩ (KvA.ex t)
theorem Own.ex {a : Addr} {w : Dv} (h : Own ⟨f, e1⟩ G H a w) : Own ⟨f, e2⟩ G H a w := by
  cases w with
  | p _ => exact h
  | x => exact h
  | o _ ds => obtain ⟨xs, e, r⟩ := h; exact ⟨xs, e, RpA.ex r⟩
  | k _ ds => obtain ⟨xs, e, r⟩ := h; exact ⟨xs, e, KvA.ex r⟩
theorem Rel.chg (R : Rel ⟨f, e1⟩ F G ρ σ H) (h : ∀ c : Cau, e2 = some c → (σ[c.slot]? = some (some (.ref c.a)) ∧ ρ[c.slot]? = some (some .x)) ∧ CauP ⟨f, e2⟩ G H c) : Rel ⟨f, e2⟩ F G ρ σ H where
  len := R.len
  sub := R.sub
  g0 := R.g0
  h0 := R.h0
  sep := R.sep
  pure := fun i d e => by obtain ⟨v, h1, h2⟩ := R.pure i d e; exact ⟨v, h1, Rp.ex h2⟩
  own := fun i w e p => by obtain ⟨a, h1, h2, h3, h4⟩ := R.own i w e p; exact ⟨a, h1, h2, Own.ex h3, h4⟩
  dist := R.dist
  ios := R.ios
  fix := h
/-- a slot takes anything, or is emptied -/
theorem Rel.setN {mg : Mg} (R : Rel mg F G ρ σ H) {i : Nat} {x : Option Dv} {y : Option V} (hx : ∀ w : Dv, x = some w → w = .x) (n : ∀ w : Dv, ρ[i]? = some (some w) → w.isP = true) (c : ∀ c : Cau, mg.ex = some c → c.slot ≠ i) : Rel mg F G (ρ.set i x) (σ.set i y) H where
  len := by rw [List.length_set, List.length_set]; exact R.len
  sub := R.sub
  g0 := R.g0
  h0 := R.h0
  sep := R.sep
  pure := fun j d e => by
    by_cases h : i = j
    · subst h
      rw [List.getElem?_set] at e
      simp only [if_true] at e
      split at e
      · have e := Option.some.inj e; cases hx _ e
      · cases e
    · rw [List.getElem?_set_ne h] at e ⊢
      exact R.pure j d e
  own := fun j w e p => by
    by_cases h : i = j
    · subst h
      rw [List.getElem?_set] at e
      simp only [if_true] at e
      split at e
      · have e := Option.some.inj e; rw [hx _ e] at p; cases p
      · cases e
    · rw [List.getElem?_set_ne h] at e ⊢
      exact R.own j w e p
  dist := fun j k w u a hne e1 e2 p1 p2 s1 s2 => by
    have key : ∀ (j : Nat) (w : Dv), (ρ.set i x)[j]? = some (some w) → w.isP = false → i ≠ j := fun j w e p h => by
      subst h
      rw [List.getElem?_set] at e
      simp only [if_true] at e
      split at e
      · have e := Option.some.inj e; rw [hx _ e] at p; cases p
      · cases e
    have h1 := key j w e1 p1
    have h2 := key k u e2 p2
    rw [List.getElem?_set_ne h1] at e1 s1
    rw [List.getElem?_set_ne h2] at e2 s2
    exact R.dist j k w u a hne e1 e2 p1 p2 s1 s2
  ios := fun j a hj => by
    obtain ⟨e, w, hw, hp, hi⟩ := R.ios j a hj
    have h : i ≠ j := fun z => by subst z; rw [n w hw] at hp; cases hp
    rw [List.getElem?_set_ne h, List.getElem?_set_ne h]
    exact ⟨e, w, hw, hp, hi⟩
  fix := fun d hd => by
    obtain ⟨⟨h1, h2⟩, h3⟩ := R.fix d hd
    have h := (c d hd).symm
    rw [List.getElem?_set_ne h, List.getElem?_set_ne h]
    exact ⟨⟨h1, h2⟩, h3⟩
end
/-! ### mirrors -/
structure Cla where
  cat : Str → Option Bool
  sl : Option Nat
  ms : Exn → M Fw
/-- a slot that may hold the exception: free of own objects -/
def okX (ρ : Env) (i : Nat) : Bool := match ρ[i]? with
  | some (some w) => w.isP && !w.io
  | some none => true
  | none => false
def endM (i : Nat) : Out Fw → Out Fw
  | .ok fl ρ => .ok fl (ρ.set i none)
  | _ => .no
def handM : List Cla → Exn → M Fw
  | [], c => fun ρ => .ex c ρ
  | q :: r, c => fun ρ => match q.cat c.cls with
    | some true => match q.sl with
      | some i => if okX ρ i = true then endM i (q.ms c (ρ.set i (some .x))) else .no
      | none => match q.ms c ρ with
        | .ok fl ρ' => .ok fl ρ'
        | _ => .no
    | some false => handM r c ρ
    | none => .no
def tryM (mb : M Fw) (cl : List Cla) : M Fw := fun ρ => match mb ρ with
  | .ex c ρ' => handM cl c ρ'
  | o => o
def NameIs (Φ : Fam) (x : Str) (c : Value) : Prop := Φ.sc.names.lookup x = some .globalImplicit ∧ (x == ("__debug__" : Str)) = false ∧ (Φ.mg.f x = some c ∨ (Φ.mg.f x = none ∧ bootBuiltins x = some c ∧ x ≠ "__name__"))
def ExnIs (mg : Mg) (c : Exn) (cls : Value) (d : Option Addr) (p : Option (Addr × Str × V × D)) : Prop := mg c.cls = some cls ∧ match c.pay with
  | none => p = none ∧ d = none
  | some (f, z) => ∃ dd v, d = some dd ∧ p = some (dd, f, v, z)
def CatIs (Φ : Fam) (cat : Str → Option Bool) (c : Value) : Prop := ∀ x b cls, cat x = some b → Φ.mg.f x = some cls → PySem.W.exmOne Φ.K cls c = some b
inductive ClasOk (Φ : Fam) : List ExceptHandler → List Cla → Prop
  | nil : ClasOk Φ [] []
  | bare {x : Str} {cv : Value} {q : Cla} {st : Stmt} {sts : List Stmt} {p1 p2 : Pos} {hds : List ExceptHandler} {l : List Cla} : NameIs Φ x cv → CatIs Φ q.cat cv → q.sl = none →
      (∀ (c : Exn) (a : Addr) (cls : Value) (d : Option Addr), Φ.mg c.cls = some cls → SSs (Φ.sui a none cls d) (st :: sts) (q.ms c)) → ClasOk Φ hds l → ClasOk Φ (.ExceptHandler (some (.Name x p1)) none (st :: sts) p2 :: hds) (q :: l)
  | named {x n : Str} {i : Nat} {cv : Value} {q : Cla} {st : Stmt} {sts : List Stmt} {p1 p2 : Pos} {hds : List ExceptHandler} {l : List Cla} : NameIs Φ x cv → CatIs Φ q.cat cv → q.sl = some i → Φ.N[i]? = some n → Φ.sc.names.lookup n = some .local →
      (∀ (c : Exn) (a : Addr) (cls : Value) (d : Option Addr) (p : Option (Addr × Str × V × D)), ExnIs Φ.mg c cls d p → SSs (Φ.sui a (some ⟨i, a, p⟩) cls d) (st :: sts) (q.ms c)) → ClasOk Φ hds l →
      ClasOk Φ (.ExceptHandler (some (.Name x p1)) (some n) (st :: sts) p2 :: hds) (q :: l)
section
variable {mg : Mg} {F : Fr} {G G' : Hp} {ρ ρ' : Env} {σ σ' : L2.St} {H H' : Hp}
def Fr.inG (F : Fr) (G : Hp) : Fr := ⟨F.H0, G, F.ios⟩
theorem Rel.inG (R : Rel mg F G ρ σ H) : Rel mg (F.inG G) G ρ σ H := ⟨R.len, R.sub, Same.rfl, R.h0, fun _ _ e => e, R.pure, R.own, R.dist, R.ios, R.fix⟩
theorem Rel.outG (R0 : Rel mg F G ρ σ H) (R : Rel mg (F.inG G) G' ρ' σ' H') : Rel mg F G' ρ' σ' H' ∧ Same G G' :=
  ⟨⟨R.len, R.sub, R0.g0.trans R.g0, R.h0, fun a n e => R.sep a n (R0.sep a n e), R.pure, R.own, R.dist, R.ios, R.fix⟩, R.g0⟩
theorem RetV.ex {f : Str → Option Value} {e1 e2 : Option Cau} {v : V} {w : Dv} (h : RetV ⟨f, e1⟩ F G H v w) : RetV ⟨f, e2⟩ F G H v w := by
  cases w with
  | p d => exact Rp.ex (show Rp ⟨f, e1⟩ G v d from h)
  | x => obtain ⟨a, h1, h2, h3, h4, h5⟩ := h; exact h4.elim
  | o b ds => obtain ⟨a, h1, h2, h3, h4, h5⟩ := h; exact ⟨a, h1, h2, h3, Own.ex h4, h5⟩
  | k b ds => obtain ⟨a, h1, h2, h3, h4, h5⟩ := h; exact ⟨a, h1, h2, h3, Own.ex h4, h5⟩
end
section
variable {Φ : Fam}
/-- the clauses' readings -/
theorem ways_ok (hdf : Φ.dfn = true) (hex : Φ.mg.ex = none) {hds : List ExceptHandler} {cl : List Cla} (h : ClasOk Φ hds cl) : ∃ l : List (Value × Option Nat × SuT), (∀ i, WaysOk (Φ.X i) hds l) ∧
    ∀ (F : Fr) (G0 : Hp) (Z : Ends) (c : Exn) (G : Hp) (ρ : Env) (σ : L2.St) (H : Hp) (cls : Value) (d : Option Addr), Same G0 G → Rel Φ.mg F G ρ σ H → ExR Φ.mg c cls d G H → Sat (handM cl c ρ) (FPost Φ.mg F G0 Z) (ExK Φ.mg Φ.W F) → wWays Φ.K Φ.W Z l cls d σ H := by
  have emg : Φ.mg = ⟨Φ.mg.f, none⟩ := by rw [← hex]
  induction h with
  | nil => exact ⟨[], fun _ => .nil, fun F G0 Z c G ρ σ H cls d s0 R x s => s G σ H cls d R x⟩
  | @bare x cv q st sts p1 p2 hds l nm ct hs hsu r ih =>
    obtain ⟨lr, hr, hw⟩ := ih
    let ts : SuT := fun a cls d Z σ H => ∃ (c : Exn) (h : Φ.mg c.cls = some cls), Classical.choose (hsu c a cls d h) Z σ H
    refine ⟨(cv, none, ts) :: lr, fun i => .bare ?_ (fun a oe cls d pn hz hf => ?_) (hr i), fun F G0 Z c G ρ σ H cls d s0 R x s => ?_⟩
    · obtain ⟨h1, h2, h3⟩ := nm
      exact ⟨Φ.gl h1 i, h2, by rw [Φ.hmg i]; exact h3⟩
    · exact ⟨fun pins s σ H Z I ⟨c, hc, t⟩ => ((Classical.choose_spec (hsu c a cls d hc)).1 ⟨(i, oe, pn), hz, hf⟩).run pins s σ H Z I t⟩
    · unfold handM at s
      cases hq : q.cat c.cls with
      | none => rw [hq] at s; exact s.elim
      | some b =>
        refine ⟨b, ct _ _ _ hq x.1, fun hb a ha => ?_, fun hb => ?_⟩
        · subst hb
          rw [hq] at s
          simp only [hs] at s
          refine ⟨c, x.1, ?_⟩
          have R' : Rel ⟨Φ.mg.f, none⟩ F G ρ σ H := by rw [← emg]; exact R
          refine (Classical.choose_spec (hsu c a cls d x.1)).2 F G ρ σ H Z R' ?_
          cases hm : q.ms c ρ with
          | no => rw [hm] at s; exact s.elim
          | ex _ _ => rw [hm] at s; exact s.elim
          | ok fl ρ2 =>
            rw [hm] at s
            have s2 : FPost Φ.mg F G0 Z fl ρ2 := s
            rw [emg] at s2
            cases fl with
            | nx => exact fun G' σ' H' R' sg => s2 G' σ' H' R' (s0.trans sg)
            | bk => exact fun G' σ' H' R' sg => s2 G' σ' H' R' (s0.trans sg)
            | ct => exact fun G' σ' H' R' sg => s2 G' σ' H' R' (s0.trans sg)
            | ret w => exact fun G' σ' H' v R' sg rv => s2 G' σ' H' v R' (s0.trans sg) rv
        · subst hb
          rw [hq] at s
          exact hw F G0 Z c G ρ σ H cls d s0 R x s
  | @named x n i cv q st sts p1 p2 hds l nm ct hs hN hln hsu r ih =>
    obtain ⟨lr, hr, hw⟩ := ih
    let ts : SuT := fun a cls d Z σ H => ∃ (c : Exn) (p : Option (Addr × Str × V × D)) (h : ExnIs Φ.mg c cls d p), Classical.choose (hsu c a cls d p h) Z σ H
    refine ⟨(cv, some i, ts) :: lr, fun j => .named ?_ (Φ.nx hN j) (by show (Φ.X j).env.scope.names.lookup n = _; rw [Φ.hsc j]; exact hln) (fun a oe cls d pn hz hf => ?_) (hr j), fun F G0 Z c G ρ σ H cls d s0 R x s => ?_⟩
    · obtain ⟨h1, h2, h3⟩ := nm
      exact ⟨Φ.gl h1 j, h2, by rw [Φ.hmg j]; exact h3⟩
    · exact ⟨fun pins s σ H Z I ⟨c, p, hc, t⟩ => ((Classical.choose_spec (hsu c a cls d p hc)).1 ⟨(j, oe, pn), hz, hf⟩).run pins s σ H Z I t⟩
    · unfold handM at s
      cases hq : q.cat c.cls with
      | none => rw [hq] at s; exact s.elim
      | some b =>
        refine ⟨b, ct _ _ _ hq x.1, fun hb a ha => ?_, fun hb => ?_⟩
        · subst hb
          rw [hq] at s
          simp only [hs] at s
          by_cases ho : okX ρ i = true
          rotate_left
          · rw [if_neg ho] at s; exact s.elim
          rw [if_pos ho] at s
          have hl : i < ρ.length := by
            unfold okX at ho
            cases e : ρ[i]? with
            | none => rw [e] at ho; cases ho
            | some y => exact (List.getElem?_eq_some_iff.mp e).1
          have hP : ∀ w : Dv, ρ[i]? = some (some w) → w.isP = true := fun w e => by
            unfold okX at ho
            rw [e] at ho
            simp only [Bool.and_eq_true] at ho
            exact ho.1
          obtain ⟨p, hp, hcp⟩ : ∃ p, ExnIs Φ.mg c cls d p ∧ CauP ⟨Φ.mg.f, some ⟨i, a, p⟩⟩ G H ⟨i, a, p⟩ := by
            obtain ⟨x1, x2⟩ := x
            cases hy : c.pay with
            | none => exact ⟨none, ⟨x1, by rw [hy] at x2 ⊢; exact ⟨rfl, x2⟩⟩, fun p e => by cases e⟩
            | some y =>
              obtain ⟨f0, z0⟩ := y
              rw [hy] at x2
              obtain ⟨dd, v, e1, e2, e3, e4⟩ := x2
              refine ⟨some (dd, f0, v, z0), ⟨x1, by rw [hy]; exact ⟨dd, v, e1, rfl⟩⟩, fun p e => ?_⟩
              cases e
              exact ⟨e2, e4, Rp.ex (f := Φ.mg.f) (e1 := Φ.mg.ex) e3⟩
          refine ⟨c, p, hp, ?_⟩
          have R1 : Rel ⟨Φ.mg.f, none⟩ F G (ρ.set i (some .x)) (σ.set i (some (.ref a))) H := by
            rw [← emg]
            exact R.setN (fun w e => by cases e; rfl) hP (fun c e => by rw [hex] at e; cases e)
          have R2 : Rel ⟨Φ.mg.f, some ⟨i, a, p⟩⟩ F G (ρ.set i (some .x)) (σ.set i (some (.ref a))) H := R1.chg fun c e => by
            cases e
            refine ⟨⟨?_, ?_⟩, hcp⟩
            · show (σ.set i (some (.ref a)))[i]? = _
              rw [List.getElem?_set_self (by rw [R.len]; exact hl)]
            · show (ρ.set i (some .x))[i]? = _
              rw [List.getElem?_set_self hl]
          refine (Classical.choose_spec (hsu c a cls d p hp)).2 F G _ _ H (endAs Z i) R2 ?_
          cases hm : q.ms c (ρ.set i (some .x)) with
          | no => rw [hm] at s; exact s.elim
          | ex _ _ => rw [hm] at s; exact s.elim
          | ok fl ρ2 =>
            rw [hm] at s
            have s2 : FPost Φ.mg F G0 Z fl (ρ2.set i none) := s
            rw [emg] at s2
            have back : ∀ {G' σ' H'}, Rel ⟨Φ.mg.f, some ⟨i, a, p⟩⟩ F G' ρ2 σ' H' → Rel ⟨Φ.mg.f, none⟩ F G' (ρ2.set i none) (σ'.set i none) H' := fun {G' σ' H'} R' => by
              obtain ⟨⟨_, g2⟩, _⟩ := R'.fix _ rfl
              have R3 : Rel ⟨Φ.mg.f, none⟩ F G' ρ2 σ' H' := R'.chg fun c e => by cases e
              exact R3.setN (fun w e => by cases e) (fun w e => by rw [show ρ2[i]? = some (some Dv.x) from g2] at e; cases e; rfl) fun c e => by cases e
            cases fl with
            | nx => exact fun G' σ' H' R' sg => s2 G' _ H' (back R') (s0.trans sg)
            | bk => exact fun G' σ' H' R' sg => s2 G' _ H' (back R') (s0.trans sg)
            | ct => exact fun G' σ' H' R' sg => s2 G' _ H' (back R') (s0.trans sg)
            | ret w => exact fun G' σ' H' v R' sg rv => s2 G' _ H' v (back R') (s0.trans sg) (RetV.ex rv)
        · subst hb
          rw [hq] at s
          exact hw F G0 Z c G ρ σ H cls d s0 R x s
theorem ss_try {body : List Stmt} {hd0 : ExceptHandler} {hds : List ExceptHandler} {pos : Pos} {mb : M Fw} {cl : List Cla} (hb : ∀ W, SSs (Φ.tr W) body mb) (hh : ClasOk Φ (hd0 :: hds) cl) (hdf : Φ.dfn = true := by rfl) (hex : Φ.mg.ex = none := by rfl) :
    SS Φ (.Try body (hd0 :: hds) [] [] pos) (tryM mb cl) := by
  obtain ⟨l, wo, hw⟩ := ways_ok hdf hex hh
  refine ⟨fun Z σ H => Classical.choose (hb (wWays Φ.K Φ.W Z l)) Z σ H, fun i => ?_, fun F G ρ σ H Z R s => ?_⟩
  · rw [← Φ.hK i]
    exact ps_ways (tb := fun W => Classical.choose (hb W)) (Φ.hdfn hdf i).stack (Φ.hdfn hdf i).frame (Φ.ndi i) (Φ.takes i) (fun W pn xe tk po => (Classical.choose_spec (hb W)).1 ⟨(i, pn, xe), tk, po⟩) (wo i)
  · refine (Classical.choose_spec (hb (wWays Φ.K Φ.W Z l))).2 (F.inG G) G ρ σ H Z R.inG ?_
    unfold tryM at s
    cases hm : mb ρ with
    | no => rw [hm] at s; exact s.elim
    | ok fl ρ2 =>
      rw [hm] at s
      have s2 : FPost Φ.mg F G Z fl ρ2 := s
      cases fl with
      | nx => exact fun G' σ' H' R' sg => s2 G' σ' H' (R.outG R').1 sg
      | bk => exact fun G' σ' H' R' sg => s2 G' σ' H' (R.outG R').1 sg
      | ct => exact fun G' σ' H' R' sg => s2 G' σ' H' (R.outG R').1 sg
      | ret w => exact fun G' σ' H' v R' sg rv => s2 G' σ' H' v (R.outG R').1 sg (by cases w <;> exact rv)
    | ex c ρ2 =>
      rw [hm] at s
      intro G' σ' H' cls od R' x
      obtain ⟨R1, sg⟩ := R.outG R'
      exact hw F G Z c G' ρ2 σ' H' cls od sg R1 x s
end
end Fl
end

section
set_option Elab.async false
set_option linter.all false
set_option maxRecDepth 100000
set_option autoImplicit false
/-! Fl, part Q: what a suite asks of the caught exception: isinstance(e, ..), e.f. -/
namespace Fl
open PySem PySem.Spec PyProof.Rows L2

section
open PySem.W PySem.Calls
variable {prog : Program} {w : World} {A : Around} {E : Value → Shared → Prop} {s : Shared} {K : Frag} {x D : Addr} {ox : Obj} {od : Option Obj}
theorem cls_found (C : ExcC K D) : findObj K D od "__class__" = some (.bind (.builtin "getset_descriptor.__get__") (.builtin "object.__class__")) := by
  obtain ⟨cd, hc, _⟩ := any_some C.hd
  unfold findObj
  rw [hc, Option.bind_some, C.ha, Option.bind_some]
  simp [C.hn, C.ht]
theorem exc_class {Q : Option Value → Shared → Prop} (C : ExcC K D) (X : K.In s.heap) (I : InstAt s.heap x ox D od) (h : Q (some (.ref D)) { s with toks := s.toks + 1 }) : wpAny (model prog w) A (getAttr? (.ref x) "__class__") Q E s := by
  have fnd := cls_found (od := od) C
  obtain ⟨hp, gs, dr, tk, os⟩ := s
  have ty := I.type (M := model prog w)
  have ga := looks_findIn (M := model prog w) X C.hg
  have gt := looks_findIn (M := model prog w) X C.hk
  have fo := looks_find (M := model prog w) X I fnd
  have ise : Looks (model prog w) hp (isInstance (.ref x) (.type "BaseException")) true := ty.andThen (looks_subIn X C.hs)
  have n0 : (false && onTheHeap (Value.builtin "BaseException.__getattribute__")) = false := rfl
  have n2 : (Value.builtin "BaseException.__getattribute__" == Value.builtin "object.__getattribute__") = false := by decide +kernel
  have n1 : (onTheHeap (Value.ref D) && Value.builtin "BaseException.__getattribute__" == Value.builtin "object.__getattribute__") = false := by rw [n2]; rfl
  unfold getAttr? getAttrBy? getAttrBy
  refine wpAny_bind (wpAny_mkText (wpAny_bind (wpAny_attempt (wpAny_holding (wpAny_bind (ty.at (wpAny_bind (ga.at ?_))))))))
  show wpAny _ _ (if (onTheHeap (Value.ref D) && Value.builtin "BaseException.__getattribute__" == Value.builtin "object.__getattribute__") = true then _ else _) _ _ _
  rw [n1, if_neg Bool.false_ne_true]
  unfold getAttrByItsOwn hookBefore
  refine wpAny_bind ?_
  rw [if_pos (show onTheHeap (Value.ref D) = true from rfl)]
  refine gt.at (wpAny_bind (wpAny_attempt (wpAny_holding ?_)))
  unfold callGetattribute
  rw [n0, if_neg Bool.false_ne_true]
  unfold boundAndCalled
  rw [PySem.F.excAttr_ValueError.ga.bind (.ref x)]
  refine wpAny_bind (wpAny_pure ?_)
  show wpAny _ _ (call (.builtin "BaseException.__getattribute__") [.ref x, .str "__class__" tk]) _ _ _
  refine wpAny_call (codeAny_call_builtin PySem.F.excAttr_ValueError.ga.plain PySem.F.entry_bexc_ga ?_)
  refine @check_slot (model prog w) _ _ ⟨hp, gs, dr, tk + 1, os⟩ "BaseException.__getattribute__" "BaseException" "__getattribute__" (.ref x) [.str "__class__" tk] [] _ (by decide +kernel) (by decide +kernel) ise (PySem.F.args_bexc_ga (.ref x) (.str "__class__" tk)) ?_
  unfold Builtin.«object.__getattribute__»
  refine wpAny_bind (wpAny_of_eq (a := ((Value.ref x : Value), [Value.str "__class__" tk])) (by first | rfl | (simp only [slotArgs]; rfl)) ?_)
  refine wpAny_bind (wpAny_pure (wpAny_bind (ty.at (wpAny_bind (fo.at ?_)))))
  show wpAny _ _ (holding [Value.builtin "object.__class__"] (call (.builtin "getset_descriptor.__get__") [.builtin "object.__class__", .ref x, .ref D]) >>= ret) _ _ _
  refine wpAny_bind (wpAny_holding (wpAny_call (class_get (s := ⟨hp, gs, dr, tk + 1, os⟩) (ox := ox) (od := od) X I C.hm ?_)))
  refine wpAny_pure ?_
  show wpAny _ _ (handedOut (.ref D)) _ _ _
  rw [handedOut_of (v := .ref D) rfl]
  first
    | exact wpAny_pure (wpAny_pure h)
    | exact wpAny_pure h
    | exact wpAny_pure (wpAny_bind (wpAny_pure (wpAny_pure h)))
theorem kit_exc (C : ExcC K D) : KitX K (.ref x) (.ref D) (fun h => ∃ od, InstAt h x ox D od) where
  ty := fun _ _ _ ⟨_, I⟩ => I.type
  it := fun _ _ X _ => by
    obtain ⟨cd, hc, _⟩ := any_some C.hd
    unfold clsIn at hc
    split at hc
    · rename_i c1 d1 cd1 sl1 look
      intro A' Q' E' s' k q
      unfold isType loadHead
      exact wpAny_bind (wpAny_loadPart (k _ _ (X _ _ look)) (wpAny_pure q))
    · cases hc
  ne := fun h tp dd its n sl X ht => by
    obtain ⟨cd, hc, _⟩ := any_some C.hd
    refine Bool.eq_false_iff.mpr fun q => ?_
    have e : D = tp := Value.ref.inj (beq_iff_eq.mp q)
    subst e
    unfold clsIn at hc
    split at hc
    · rename_i c1 d1 cd1 sl1 look
      cases (X _ _ look).symm.trans ht
    · cases hc
  ca := fun X ⟨_, I⟩ k => exc_class C X I k
end
/-- isinstance(e, c) -/
def rIsX (K : PySem.W.Frag) (D a : Addr) (d : Option Addr) : List V → Hp → VK → Prop := fun xs H Q => ∃ (c : V) (cv : Value) (b : Bool), xs = [.ref a, c] ∧ (∀ u, RelV c u → u = cv) ∧ PySem.W.kitOne K (.ref D) cv = some b ∧ (d = none ∨ ∃ dd fs, d = some dd ∧ H dd = some (.xd fs)) ∧ Q (.bl b) H
def rIsXT (K : PySem.W.Frag) (D a : Addr) (d : Option Addr) : List V → Hp → VK → Prop := fun xs H Q => ∃ (tp : Addr) (cs : List V) (us : List Value) (b : Bool), xs = [.ref a, .ref tp] ∧ H tp = some (.tup cs) ∧ Paired ClsV cs us ∧ PySem.W.kitAny K (.ref D) us = some b ∧ (d = none ∨ ∃ dd fs, d = some dd ∧ H dd = some (.xd fs)) ∧ Q (.bl b) H
section
variable {X : Cx} {a D : Addr} {oe : Obj} {pn : List (Addr × Obj)} {d : Option Addr}
theorem inst_exc {pins : List (Addr × Obj)} {σ : L2.St} {H : Hp} {s : Shared} (I : Inv (X.suite a ((a, oe) :: pn)) pins σ H s) (hz : Zc (.ref D) d oe) (hf : ∃ vs, oe.data = .fields vs) (hd : d = none ∨ ∃ dd fs, d = some dd ∧ H dd = some (.xd fs)) : ∃ od, PySem.W.InstAt s.heap a oe D od := by
  obtain ⟨there, _⟩ := I.pin (a, oe) (List.mem_append.mpr (.inl List.mem_cons_self))
  obtain ⟨vs, hv⟩ := hf
  rcases hd with rfl | ⟨dd, fs, rfl, ed⟩
  · obtain ⟨oc, od, oda, osl⟩ := oe
    obtain ⟨h1, h2⟩ := hz
    dsimp only at h1 h2 hv
    subst h1 h2 hv
    exact ⟨none, there, rfl, rfl, trivial⟩
  · have hx : ObjOk X.prog X.w H s.heap dd (.xd fs) := I.hok dd _ ed
    obtain ⟨mA, hns, hr⟩ := hx
    obtain ⟨od, ho, _⟩ := lookIn_ns hns
    refine ⟨some od, there, hz.1, ?_, by rw [hz.2]; exact ho⟩
    unfold PySem.W.notCls
    rw [hv]
theorem call_isX (C : ExcC X.K D) (hz : Zc (.ref D) d oe) (hf : ∃ vs, oe.data = .fields vs) : CallR (X.suite a ((a, oe) :: pn)) (.builtin "isinstance") (rIsX X.K D a d) := by
  intro pins s σ H xs us Q I r h
  obtain ⟨c, cv, b, rfl, hcv, e, hd, q⟩ := h
  obtain ⟨u1, u2, rfl, r1, r2⟩ := vals2 r
  cases (show u1 = Value.ref a from r1)
  have e2 := hcv _ r2
  subst e2
  exact PySem.W.kia_one (kit_exc C) I.kIn (inst_exc I hz hf hd) e (fun z => nomatch z) fun tk => ⟨.bl b, H, I.kept (t' := tk) fun _ _ z => z, rfl, q⟩
theorem call_isXT (C : ExcC X.K D) (hz : Zc (.ref D) d oe) (hf : ∃ vs, oe.data = .fields vs) : CallR (X.suite a ((a, oe) :: pn)) (.builtin "isinstance") (rIsXT X.K D a d) := by
  intro pins s σ H xs us Q I r h
  obtain ⟨tp, cs, ws, b, rfl, hT, k, e, hd, q⟩ := h
  obtain ⟨u1, u2, rfl, r1, r2⟩ := vals2 r
  cases (show u1 = Value.ref a from r1)
  cases (show u2 = Value.ref tp from r2)
  obtain ⟨_, its, rv, o, h1, h2, n, h3⟩ := (show ObjOk X.prog X.w H s.heap tp (.tup cs) from I.hok tp _ hT)
  have e3 := ClsV.all k rv
  subst e3
  obtain ⟨oc, od, dt, sl⟩ := o
  simp only at h2 h3
  subst h2 h3
  exact PySem.W.kia_tup (kit_exc C) I.kIn (inst_exc I hz hf hd) h1 e (fun z => nomatch z) fun tk => ⟨.bl b, H, I.kept (t' := tk) fun _ _ z => z, rfl, q⟩
end
/-! ### the mirrors -/
def isXat (ρ : Env) (i : Nat) : Bool := match ρ[i]? with
  | some (some .x) => true
  | _ => false
def excM (i : Nat) (z : Option D) : M D := fun ρ => if isXat ρ i = true then optM z ρ else .no
theorem isXat_get {ρ : Env} {i : Nat} (h : isXat ρ i = true) : ρ[i]? = some (some .x) := by
  unfold isXat at h
  split at h
  · assumption
  · cases h
/-- a class as a value -/
def ClsAt (Φ : Fam) (x : Str) (v : V) (u : Value) : Prop := ClsV v u ∧ NameIs Φ x u
section
variable {Φ : Fam}
theorem cls_pe {x : Str} {v : V} {u : Value} (h : ClsAt Φ x v u) (i : Φ.ι) (pos : Pos) : PE (Φ.X i) (.Name x pos) (tC v) := by
  obtain ⟨h1, h2, h3, h4⟩ := h
  have r : RelV v u := by cases h1 <;> rfl
  rcases h4 with h4 | ⟨h4, h5, h6⟩
  · exact pe_glob (Φ.gl h2 i) (by rw [Φ.hmg i]; exact h4) r h3
  · exact pe_bltn (Φ.gl h2 i) (by rw [Φ.hmg i]; exact h4) h5 r h6 h3
theorem ClsAt.ty {x : Str} {n : String} (hg : Φ.sc.names.lookup x = some .globalImplicit) (hm : Φ.mg.f x = none) (hv : bootBuiltins x = some (.type n)) (hn : x ≠ "__name__" := by decide) (hd : (x == ("__debug__" : Str)) = false := by decide) : ClsAt Φ x (.ty n) (.type n) := ⟨.ty n, hg, hd, .inr ⟨hm, hv, hn⟩⟩
theorem ClsAt.own {x : Str} {C : Addr} (hg : Φ.sc.names.lookup x = some .globalImplicit) (hm : Φ.mg.f x = some (.ref C)) (hd : (x == ("__debug__" : Str)) = false := by decide) : ClsAt Φ x (.ref C) (.ref C) := ⟨.own C, hg, hd, .inl hm⟩
/-- the classes that may come, each with what the question answers -/
def IsTab (K : PySem.W.Frag) (f : Str → Option Value) (g : Value → Option Bool) (tab : List (Str × Bool)) : Prop := ∀ x b, tab.lookup x = some b → ∃ D, f x = some (.ref D) ∧ ExcC K D ∧ g (.ref D) = some b
theorem IsTab.nil {K : PySem.W.Frag} {f : Str → Option Value} {g : Value → Option Bool} : IsTab K f g [] := fun x b h => by cases h
theorem IsTab.cons {K : PySem.W.Frag} {f : Str → Option Value} {g : Value → Option Bool} {x : Str} {b : Bool} {D : Addr} {r : List (Str × Bool)} (h1 : f x = some (.ref D)) (h2 : ExcC K D) (h3 : g (.ref D) = some b) (h : IsTab K f g r) : IsTab K f g ((x, b) :: r) := fun y c e => by
  unfold List.lookup at e
  split at e
  · rename_i q
    cases e
    rw [beq_iff_eq.mp q]
    exact ⟨D, h1, h2, h3⟩
  · exact h y c e
variable {c : Exn} {a : Addr} {cls : Value} {d : Option Addr} {p : Option (Addr × Str × V × D)} {i : Nat}
theorem dict_at {mg : Mg} {F : Fr} {G : Hp} {ρ : Env} {σ : L2.St} {H : Hp} (hx : ExnIs Φ.mg c cls d p) (R : Rel ⟨Φ.mg.f, some ⟨i, a, p⟩⟩ F G ρ σ H) : d = none ∨ ∃ dd fs, d = some dd ∧ H dd = some (.xd fs) := by
  obtain ⟨h1, h2⟩ := hx
  obtain ⟨_, h3⟩ := R.fix _ rfl
  cases hp : c.pay with
  | none => rw [hp] at h2; exact .inl h2.2
  | some q =>
    obtain ⟨f, z⟩ := q
    rw [hp] at h2
    obtain ⟨dd, v, e1, e2⟩ := h2
    have z := (h3 _ e2).1
    exact .inr ⟨dd, _, e1, z⟩
theorem se_isX {x : Str} {n : Str} {v : V} {u : Value} {tab : List (Str × Bool)} {p1 p2 p3 pos : Pos} (hx : ExnIs Φ.mg c cls d p) (hc : ClsAt (Φ.sui a (some ⟨i, a, p⟩) cls d) x v u) (ht : IsTab Φ.K Φ.mg.f (fun D => PySem.W.kitOne Φ.K D u) tab)
    (hgI : Φ.sc.names.lookup ("isinstance" : Str) = some .globalImplicit) (hmI : Φ.mg.f "isinstance" = none) (hN : Φ.N[i]? = some n) (hv : Vis Φ.sc n) (hd : (n == ("__debug__" : Str)) = false := by decide) (hcd : (n == ("__classdict__" : Str)) = false := by decide)
    (hst : ∀ env, starEach [.Name n p2, .Name x p3] env = (false, eval (.Name n p2) env) :: starEach [.Name x p3] env := by intro _; first | rfl | with_unfolding_all rfl) :
    SE (Φ.sui a (some ⟨i, a, p⟩) cls d) (.Call (.Name "isinstance" p1) [.Name n p2, .Name x p3] [] pos) (excM i ((tab.lookup c.cls).map D.bl)) := by
  refine ⟨fun σ H Q => ∃ D, cls = .ref D ∧ ExcC Φ.K D ∧ tCB (rIsX Φ.K D a d) (tCons (tVar i) (tCons (tC v) tNil)) σ H Q, fun q => ⟨fun pins s σ H Q I ⟨D, hD, hC, h⟩ => ?_⟩, fun F G ρ σ H Q R s => ?_⟩
  · obtain ⟨⟨j, oe, pn⟩, hz, hf⟩ := q
    subst hD
    have hK : (Φ.X j).K = Φ.K := Φ.hK j
    have cr : CallR ((Φ.X j).suite a ((a, oe) :: pn)) (.builtin "isinstance") (rIsX Φ.K D a d) := by
      rw [← hK] at hC ⊢
      exact call_isX hC hz hf
    exact (pe_callB (X := (Φ.X j).suite a ((a, oe) :: pn)) cr (Φ.gl hgI j) (Φ.mgn hmI j) (by rfl) (pa_cons (pe_var (Φ.nx hN j) (Φ.vis hv j) hd hcd) (pa_cons (cls_pe hc ⟨(j, oe, pn), hz, hf⟩ p3) pa_nil rfl) (hst _)) (by decide) (by decide) (hst _) rfl).run pins s σ H Q I h
  · unfold excM at s
    split at s
    rotate_left
    · exact s.elim
    rename_i hi
    obtain ⟨z, e1, q⟩ := s.opt
    obtain ⟨b, e2, rfl⟩ := Option.map_eq_some_iff.mp e1
    obtain ⟨D, g1, g2, g3⟩ := ht _ _ e2
    have ec : cls = .ref D := by
      have := hx.1
      rw [show Φ.mg c.cls = Φ.mg.f c.cls from rfl, g1] at this
      exact (Option.some.inj this).symm
    obtain ⟨⟨f1, f2⟩, f3⟩ := R.fix _ rfl
    refine ⟨D, ec, g2, .ref a, f1, ?_⟩
    exact ⟨v, u, b, rfl, fun w r => hc.1.eq r, g3, dict_at (mg := Φ.mg) hx R, q G H _ R Same.rfl (.bl _)⟩
/-- the classes of a display -/
def ClsE (Φ : Fam) (es : List Expr) (vs : List V) (us : List Value) : Prop := Paired ClsV vs us ∧ ∃ t, (∀ i, PA (Φ.X i) es t) ∧ ∀ σ H (Q : List V → Hp → Prop), Q vs H → t σ H Q
theorem clse_nil : ClsE Φ [] [] [] := ⟨.nil, tNil, fun _ => pa_nil, fun σ H Q q => q⟩
theorem clse_cons {x : Str} {v : V} {u : Value} {ps : Pos} {es : List Expr} {vs : List V} {us : List Value} (h : ClsAt Φ x v u) (r : ClsE Φ es vs us) (hst : ∀ env, starEach (.Name x ps :: es) env = (false, eval (.Name x ps) env) :: starEach es env := by intro _; first | rfl | with_unfolding_all rfl) : ClsE Φ (.Name x ps :: es) (v :: vs) (u :: us) := by
  obtain ⟨k, t, p, q⟩ := r
  exact ⟨.cons h.1 k, tCons (tC v) t, fun i => pa_cons (cls_pe h i ps) (p i) (hst _), fun σ H Q s => q σ H _ s⟩
theorem se_isXT {n : Str} {es : List Expr} {vs : List V} {us : List Value} {tab : List (Str × Bool)} {p1 p2 p3 pos : Pos} {kt : Nat} (hx : ExnIs Φ.mg c cls d p) (hc : ClsE (Φ.sui a (some ⟨i, a, p⟩) cls d) es vs us) (ht : IsTab Φ.K Φ.mg.f (fun D => PySem.W.kitAny Φ.K D us) tab)
    (hgI : Φ.sc.names.lookup ("isinstance" : Str) = some .globalImplicit) (hmI : Φ.mg.f "isinstance" = none) (hN : Φ.N[i]? = some n) (hv : Vis Φ.sc n) (hlen : Nat.ble vs.length 100 = true := by rfl) (hd : (n == ("__debug__" : Str)) = false := by decide) (hcd : (n == ("__classdict__" : Str)) = false := by decide)
    (hst : ∀ env, starEach [.Name n p2, .Tuple es kt p3] env = (false, eval (.Name n p2) env) :: starEach [.Tuple es kt p3] env := by intro _; first | rfl | with_unfolding_all rfl) :
    SE (Φ.sui a (some ⟨i, a, p⟩) cls d) (.Call (.Name "isinstance" p1) [.Name n p2, .Tuple es kt p3] [] pos) (excM i ((tab.lookup c.cls).map D.bl)) := by
  obtain ⟨kp, ta, pa, qa⟩ := hc
  have hlen := Nat.le_of_ble_eq_true hlen
  refine ⟨fun σ H Q => ∃ D, cls = .ref D ∧ ExcC Φ.K D ∧ tCB (rIsXT Φ.K D a d) (tCons (tVar i) (tCons (tTup ta) tNil)) σ H Q, fun q => ⟨fun pins s σ H Q I ⟨D, hD, hC, h⟩ => ?_⟩, fun F G ρ σ H Q R s => ?_⟩
  · obtain ⟨⟨j, oe, pn⟩, hz, hf⟩ := q
    subst hD
    have hK : (Φ.X j).K = Φ.K := Φ.hK j
    have cr : CallR ((Φ.X j).suite a ((a, oe) :: pn)) (.builtin "isinstance") (rIsXT Φ.K D a d) := by
      rw [← hK] at hC ⊢
      exact call_isXT hC hz hf
    exact (pe_callB (X := (Φ.X j).suite a ((a, oe) :: pn)) cr (Φ.gl hgI j) (Φ.mgn hmI j) (by rfl) (pa_cons (pe_var (Φ.nx hN j) (Φ.vis hv j) hd hcd) (pa_cons (pe_tup (pa ⟨(j, oe, pn), hz, hf⟩)) pa_nil rfl) (hst _)) (by decide) (by decide) (hst _) rfl).run pins s σ H Q I h
  · unfold excM at s
    split at s
    rotate_left
    · exact s.elim
    rename_i hi
    obtain ⟨z, e1, q⟩ := s.opt
    obtain ⟨b, e2, rfl⟩ := Option.map_eq_some_iff.mp e1
    obtain ⟨D, g1, g2, g3⟩ := ht _ _ e2
    have ec : cls = .ref D := by
      have := hx.1
      rw [show Φ.mg c.cls = Φ.mg.f c.cls from rfl, g1] at this
      exact (Option.some.inj this).symm
    obtain ⟨⟨f1, f2⟩, f3⟩ := R.fix _ rfl
    refine ⟨D, ec, g2, .ref a, f1, ?_⟩
    refine qa _ _ _ ⟨by rw [sizeLine_eq]; omega, fun tp nt => ?_⟩
    have xt := Ext.alloc R.sub nt (.tup vs)
    exact ⟨tp, vs, us, b, rfl, upd_same, kp, g3, dict_at (mg := Φ.mg) hx (R.ext xt), q _ _ _ (R.ext xt) xt.hG (.bl _)⟩
/-- e.f -/
def FldTab (K : PySem.W.Frag) (g : Str → Option Value) (f : Str) (tab : List Str) : Prop := ∀ x, tab.contains x = true → ∃ D, g x = some (.ref D) ∧ XfC K D ∧ PySem.W.findIn K (.ref D) f = some none
def fldF (tab : List Str) (f : Str) (c : Exn) : Option D := if tab.contains c.cls = true then match c.pay with
    | some (g, z) => if g = f then some z else none
    | none => none
  else none
theorem se_fldX {n f : Str} {tab : List Str} {p2 pos : Pos} (hx : ExnIs Φ.mg c cls d p) (ht : FldTab Φ.K Φ.mg.f f tab) (hN : Φ.N[i]? = some n) (hv : Vis Φ.sc n) (hd : (n == ("__debug__" : Str)) = false := by decide) (hcd : (n == ("__classdict__" : Str)) = false := by decide)
    (hb : ∀ env, attributeBase (.Name n p2) f env (eval (.Name n p2) env) = eval (.Name n p2) env := by intro _; first | rfl | with_unfolding_all rfl) :
    SE (Φ.sui a (some ⟨i, a, p⟩) cls d) (.Attribute (.Name n p2) f pos) (excM i (fldF tab f c)) := by
  refine ⟨fun σ H Q => ∃ D, cls = .ref D ∧ XfC Φ.K D ∧ PySem.W.findIn Φ.K (.ref D) f = some none ∧ tXf a cls d D f (tVar i) σ H Q, fun q => ⟨fun pins s σ H Q I ⟨D, hD, hC, hn, h⟩ => ?_⟩, fun F G ρ σ H Q R s => ?_⟩
  · obtain ⟨⟨j, oe, pn⟩, hz, hf⟩ := q
    have hK : (Φ.X j).K = Φ.K := Φ.hK j
    rw [← hK] at hC hn
    exact (pe_xf hC hn hz hf (pe_var (X := (Φ.X j).suite a ((a, oe) :: pn)) (Φ.nx hN j) (Φ.vis hv j) hd hcd) (hb _)).run pins s σ H Q I h
  · unfold excM at s
    split at s
    rotate_left
    · exact s.elim
    obtain ⟨z, e1, q⟩ := s.opt
    unfold fldF at e1
    split at e1
    rotate_left
    · cases e1
    rename_i hc
    obtain ⟨D, g1, g2, g3⟩ := ht _ hc
    have ec : cls = .ref D := by
      have := hx.1
      rw [show Φ.mg c.cls = Φ.mg.f c.cls from rfl, g1] at this
      exact (Option.some.inj this).symm
    obtain ⟨⟨f1, f2⟩, f3⟩ := R.fix _ rfl
    obtain ⟨x1, x2⟩ := hx
    cases hp : c.pay with
    | none => rw [hp] at e1; cases e1
    | some y =>
      obtain ⟨f0, z0⟩ := y
      rw [hp] at x2 e1
      obtain ⟨dd, v, k1, k2⟩ := x2
      simp only at e1
      split at e1
      rotate_left
      · cases e1
      rename_i ef
      subst ef
      cases e1
      obtain ⟨m1, m2, m3⟩ := f3 _ k2
      refine ⟨D, ec, g2, g3, .ref a, f1, rfl, ec, dd, [(f0, v)], v, k1, m1, by simp [List.lookup], q G H v R Same.rfl m3⟩
end
end Fl
end

section
set_option Elab.async false
set_option linter.all false
set_option maxRecDepth 100000
set_option autoImplicit false
/-! Fl, part R: raise. -/
namespace Fl
open PySem PySem.Spec PyProof.Rows L2

/-- what an own exception class without own __init__ must say -/
structure RzC (K : PySem.W.Frag) (C : Addr) (bmB : List Value) (newId : String) : Prop where
  q : PySem.W.excIn K C bmB newId = true
  k : PySem.W.keepIn K (.ref C) = true
  s : PySem.W.subIn K (.ref C) (.type "BaseException") = some true
  t : PySem.W.typeIn K (.ref C) = some (.type "type")
def raiseM (x : Str) (m : M D) : M Fw := bindM m fun _ ρ => .ex ⟨x, none⟩ ρ
section
variable {Φ : Fam}
theorem ss_raise1 {x : Str} {e : Expr} {m : M D} {C : Addr} {bmB : List Value} {B newId initId : String} {p pos pos' : Pos} (F : ExcBaseFacts B newId initId bmB) (Z : RzC Φ.K C bmB newId) (hm : Φ.mg.f x = some (.ref C)) (hg : Φ.sc.names.lookup x = some .globalImplicit) (h : SE Φ e m)
    (hd : (x == ("__debug__" : Str)) = false := by decide) (hst : ∀ env, starEach [e] env = (false, eval e env) :: starEach [] env := by intro _; first | rfl | with_unfolding_all rfl) (hc : Φ.cal = true := by rfl) : SS Φ (.Raise (some (.Call (.Name x p) [e] [] pos)) none pos') (raiseM x m) := by
  obtain ⟨t, pe, h⟩ := h
  refine ⟨_, fun i => ps_raise (Φ.calm hc i) (Φ.takes i) (SkE.pmk_own1 F (by rw [Φ.hK i]; exact Z.q) (by rw [Φ.hmg i]; exact hm) (by rw [Φ.hK i]; exact Z.k) (raises_own (by rw [Φ.hK i]; exact Z.s) (by rw [Φ.hK i]; exact Z.t)) (Φ.gl hg i) (pe i) (hst _) hd), fun Fm G ρ σ H Zd R s => ?_⟩
  refine h Fm G ρ σ H _ R (s.bind.imp (fun d ρ1 q G1 H1 v R1 s1 r => ?_) fun _ _ z => z)
  exact q G1 σ H1 _ none R1 ⟨hm, rfl⟩
end
end Fl
end

section
set_option Elab.async false
set_option linter.all false
set_option maxRecDepth 100000
set_option autoImplicit false
/-! Fl, part T: helpers of the printed walks. -/
namespace Fl
open PySem PySem.Spec PyProof.Rows L2

section
variable {P : Program} {w : World} {K : PySem.W.Frag} {mg : Mg} {base : Heap}
/-- a def stands under its name -/
def DefAt (K : PySem.W.Frag) (f : Str → Option Value) (x : Str) (st : Stmt) : Prop := ∃ a fd, f x = some (.ref a) ∧ FunD K x x (defArgs st) (defBody st) (defScope st) [] [] a fd
theorem mk_fn {x : Str} {st : Stmt} {N ps : List Str} {k : Nat} {m : M Fw} (h : DefAt K mg.f x st) (hex : mg.ex = none) (S : FnScope N ps (defScope st))
    (hb : ∀ (kV doc pm : Value) (an : Option Addr) (cdv ct : Value) (us : List Value), us.length = ps.length → bindArgs (PySem.W.fnOf x x (defArgs st) (defBody st) (defScope st) .none kV doc pm an cdv ct) ⟨us, []⟩ = pure (ps.zip us))
    (body : ∀ (f : Addr) (cdv : Value) (A : Around) (outer : List PySem.Env) (s : Shared) (H : Hp) (E : XK) (hr : Room k (A.deeper (envOfC x (defScope st) s.heap.objs.size f cdv))), SSs (defFam P w K mg base N x (defScope st) f cdv A outer s H E k S.nd hr) (defBody st) m) :
    Fn P w K mg base (k + 1) x (fnM ps.length N.length m) := by
  obtain ⟨a, fd, h1, h2⟩ := h
  exact ⟨a, fd, ps, h1, h2.kp, h2.bindsN hb, fn_ok hex h2 S (fun cdv A outer s H E hr => body a cdv A outer s H E hr)⟩
theorem fn_zero {x : Str} {st : Stmt} {N ps : List Str} {k : Nat} (h : DefAt K mg.f x st) (hex : mg.ex = none) (S : FnScope N ps (defScope st))
    (hb : ∀ (kV doc pm : Value) (an : Option Addr) (cdv ct : Value) (us : List Value), us.length = ps.length → bindArgs (PySem.W.fnOf x x (defArgs st) (defBody st) (defScope st) .none kV doc pm an cdv ct) ⟨us, []⟩ = pure (ps.zip us)) :
    Fn P w K mg base k x (fun _ => .no) := by
  obtain ⟨a, fd, h1, h2⟩ := h
  refine ⟨a, fd, ps, h1, h2.kp, h2.bindsN hb, ⟨fun vs H Q E q => ?_, fun A outer s H args us vs Q E _ _ _ _ q => ?_⟩⟩
  · obtain ⟨_, _, _, q⟩ := q; exact q.elim
  · obtain ⟨_, _, _, q⟩ := q; exact q.elim
end
theorem bb_len : bootBuiltins "len" = some (.builtin "len") := by kernel_rfl
theorem bb_abs : bootBuiltins "abs" = some (.builtin "abs") := by kernel_rfl
theorem bb_max : bootBuiltins "max" = some (.builtin "max") := by kernel_rfl
theorem bb_min : bootBuiltins "min" = some (.builtin "min") := by kernel_rfl
theorem bb_sum : bootBuiltins "sum" = some (.builtin "sum") := by kernel_rfl
theorem bb_sorted : bootBuiltins "sorted" = some (.builtin "sorted") := by kernel_rfl
theorem bb_int : bootBuiltins "int" = some (.type "int") := by kernel_rfl
theorem bb_str : bootBuiltins "str" = some (.type "str") := by kernel_rfl
theorem bb_bool : bootBuiltins "bool" = some (.type "bool") := by kernel_rfl
theorem bb_tuple : bootBuiltins "tuple" = some (.type "tuple") := by kernel_rfl
theorem bb_list : bootBuiltins "list" = some (.type "list") := by kernel_rfl
theorem bb_dict : bootBuiltins "dict" = some (.type "dict") := by kernel_rfl
theorem bb_ValueError : bootBuiltins "ValueError" = some (.type "ValueError") := by kernel_rfl
end Fl
end

section
set_option Elab.async false
set_option linter.all false
set_option maxRecDepth 100000
set_option autoImplicit false
/-! Fl, part U: over a list, a tuple or a text, whichever comes; x in an own list. -/
namespace Fl
open PySem PySem.Spec PyProof.Rows L2

def iAny (K : PySem.W.Frag) (t : TE) : TI := fun σ H R => t σ H fun x H1 => (∃ a xs, x = .ref a ∧ SqL K H1 a xs ∧ R (Itl K a) H1) ∨ (∃ a xs, x = .ref a ∧ SqT K H1 a xs ∧ R (Itt K a) H1) ∨ ∃ z, x = .str z ∧ R (Its z) H1
theorem pi_any {X : Cx} {tg e : Expr} {t : TE} (he : PE X e t) : PI X tg e (iAny X.K t) := by
  refine ⟨fun pins s σ H R I h => thn (he.run pins s σ H _ I h) fun v s1 ⟨x, H1, I1, r1, q1⟩ => ?_⟩
  rcases q1 with ⟨a, xs, rfl, hq, q⟩ | ⟨a, xs, rfl, hq, q⟩ | ⟨z, rfl, q⟩
  · cases r1
    obtain ⟨its, rv, p, hz⟩ := I1.list hq
    exact wpAny_pyIter_list p.isList (pi_one (tk := s1.toks) I1 _ (turn_list a _) ⟨_, Heap.get?_push_size _ rfl, rfl, rfl⟩ q)
  · cases r1
    obtain ⟨its, rv, p, hz⟩ := I1.tuple hq
    exact wpAny_pyIter_tuple (show s1.heap.IsTuple a its.toArray from p) (pi_one (tk := s1.toks) I1 _ (turn_tuple a _) ⟨_, Heap.get?_push_size _ rfl, rfl, rfl⟩ q)
  · obtain ⟨t', rfl⟩ := r1
    cases ha : z.cps.all (· < 128)
    · exact wpAny_pyIter_wide ha (pi_one (tk := s1.toks) I1 _ (turn_str _ z t' "str_iterator" (.inr rfl)) ⟨_, Heap.get?_push_size _ rfl, rfl, rfl⟩ q)
    · exact wpAny_pyIter_ascii ha (pi_one (tk := s1.toks) I1 _ (turn_str _ z t' "str_ascii_iterator" (.inl rfl)) ⟨_, Heap.get?_push_size _ rfl, rfl, rfl⟩ q)
def itemF : D → Option (List D)
  | .str z => some (z.cps.toList.map fun c => D.str ⟨#[c]⟩)
  | .tup ds => some ds
  | .lst ds => some ds
  | .scr ns => some (ns.map D.int)
  | _ => none
theorem iter_str {mg : Mg} {G : Hp} (z : Str) : IterOk mg G (Its z) (z.cps.toList.map fun c => D.str ⟨#[c]⟩) := by
  refine ⟨fun i H s hi => ?_, fun i H s hi => ?_, fun i H x H' d s hy hd G' sg sh => ?_⟩
  · show i < z.cps.size
    simpa using hi
  · show z.cps.size ≤ i
    simpa using hi
  · obtain ⟨rfl, c, e2, rfl⟩ := hy
    rw [List.getElem?_map] at hd
    obtain ⟨k, e3, e4⟩ := Option.map_eq_some_iff.mp hd
    rw [Array.getElem?_toList, e2] at e3
    cases e3
    subst e4
    exact ⟨G', Ext.refl sh, .str _⟩
section
variable {Φ : Fam}
theorem si_any {tg e : Expr} {m : M D} (h : SE Φ e m) : SI Φ tg e (bindM m fun d => optM (itemF d)) := by
  obtain ⟨t, p, h⟩ := h
  refine ⟨iAny Φ.K t, fun i => by rw [← Φ.hK i]; exact pi_any (p i), fun F G ρ σ H Q R s => ?_⟩
  refine h F G ρ σ H _ R (s.bind.imp (fun d ρ1 q G1 H1 v R1 s1 r => ?_) fun _ _ z => z)
  obtain ⟨ds, e1, q⟩ := q.opt
  cases r with
  | str z => cases e1; exact .inr (.inr ⟨z, rfl, q G1 H1 _ R1 s1 (iter_str z)⟩)
  | tup e2 ra => cases e1; exact .inr (.inl ⟨_, _, rfl, SqT.of (R1.sub _ _ e2), q G1 H1 _ R1 s1 (iter_tup (fun H' s' => SqT.of (s' _ _ e2)) ra)⟩)
  | lst e2 ra => cases e1; exact .inl ⟨_, _, rfl, SqL.of (R1.sub _ _ e2), q G1 H1 _ R1 s1 (iter_lst (fun H' s' => SqL.of (s' _ _ e2)) ra)⟩
  | scr e2 => cases e1; exact .inl ⟨_, _, rfl, .inl (.inr ⟨_, R1.sub _ _ e2⟩), q G1 H1 _ R1 s1 (iter_lst (fun H' s' => .inl (.inr ⟨_, s' _ _ e2⟩)) (RpA.ofInts _))⟩
  | _ => cases e1
/-! ### x in an own list -/
def inQF (neg : Bool) (d : D) (q : SK × List D) : Option D := match q.1 with
  | .t => none
  | _ => if (chk d && (okDs q.2 && SeqAt.shaped (.list (pys q.2)))) = true then some (.bl (if neg = true then !(q.2.any fun z => PyData.eqv z.py d.py) else q.2.any fun z => PyData.eqv z.py d.py)) else none
def inQM (neg : Bool) (ma : M D) (mb : M (SK × List D)) : M D := bindM ma fun d => bindM mb fun q => optM (inQF neg d q)
theorem SeqV.list {K : PySem.W.Frag} {mg : Mg} {G H : Hp} {v : V} {k : SK} {ds : List D} (s : Same G H) (sv : SeqV mg G H v k ds) (hk : k ≠ .t) (ok : okDs ds = true) : Dp K H v (.list (pys ds)) := by
  obtain ⟨a, xs, rfl, r, e⟩ := sv
  refine .lst ?_ (r.dp s ok)
  cases k with
  | t => exact absurd rfl hk
  | l => exact SqL.of e
  | s => obtain ⟨o, e⟩ := e; exact .inl (.inr ⟨_, e⟩)
theorem he_inQ {K : PySem.W.Frag} {mg : Mg} {W : WX} {neg : Bool} {r : R2} {ta tb : TE} {ma : M D} {mb : M (SK × List D)} (hr : ∀ (H : Hp) (x y : V) (d : PyData) (ds : List PyData) (Q : VK), Dp K H x d → Dp K H y (.list ds) → SeqAt.shaped d = true → SeqAt.shaped (.list ds) = true → Q (.bl (if neg = true then !(ds.any fun z => PyData.eqv z d) else ds.any fun z => PyData.eqv z d)) H → r x y H Q)
    (ha : HE mg W ta ma) (hb : HQ mg W tb mb) : HE mg W (tOp r ta tb) (inQM neg ma mb) := by
  intro F G ρ σ H Q R s
  refine ha F G ρ σ H _ R (s.bind.imp (fun d ρ1 q G1 H1 x R1 s1 r1 => ?_) fun _ _ z => z)
  refine hb F G1 ρ1 σ H1 _ R1 (q.bind.imp (fun qq ρ2 q2 G2 H2 y R2 s2 sv => ?_) fun _ _ z => z)
  obtain ⟨z, e1, q3⟩ := q2.opt
  obtain ⟨k, ds⟩ := qq
  have h : k ≠ .t ∧ (chk d && (okDs ds && SeqAt.shaped (.list (pys ds)))) = true ∧ z = .bl (if neg = true then !(ds.any fun z => PyData.eqv z.py d.py) else ds.any fun z => PyData.eqv z.py d.py) := by
    unfold inQF at e1
    cases k with
    | t => cases e1
    | l => simp only at e1; split at e1 <;> cases e1; exact ⟨by simp, by assumption, rfl⟩
    | s => simp only at e1; split at e1 <;> cases e1; exact ⟨by simp, by assumption, rfl⟩
  obtain ⟨hk, hc, rfl⟩ := h
  simp only [chk, Bool.and_eq_true] at hc
  obtain ⟨⟨c1, c2⟩, c3, c4⟩ := hc
  refine hr H2 x y d.py (pys ds) _ ((r1.mono s2).dp R2.sub c1) (sv.list R2.sub hk c3) c2 c4 ?_
  rw [← pys_eqv]
  exact q3 G2 H2 _ R2 (s1.trans s2) (.bl _)
theorem se_inQ {a b : Expr} {pos : Pos} {ma : M D} {mb : M (SK × List D)} (ha : SE Φ a ma) (hb : SQ Φ b mb) (hm : behindInMarks .In b = false := by rfl) : SE Φ (.Compare a [.In] [b] pos) (inQM false ma mb) := by
  obtain ⟨ta, pa, ha⟩ := ha
  obtain ⟨tb, pb, hb⟩ := hb
  exact ⟨tOp (rInD Φ.K) ta tb, fun i => pe_cmpR (by rw [← Φ.hK i]; exact op_inD (Φ.hu i)) (pa i) (pb i) hm, he_inQ (K := Φ.K) (fun H x y d ds Q h1 h2 h3 h4 q => ⟨d, ds, h1, h2, h3, h4, by simpa using q⟩) ha hb⟩
theorem se_inQn {a b : Expr} {pos : Pos} {ma : M D} {mb : M (SK × List D)} (ha : SE Φ a ma) (hb : SQ Φ b mb) (hm : behindInMarks .NotIn b = false := by rfl) : SE Φ (.Compare a [.NotIn] [b] pos) (inQM true ma mb) := by
  obtain ⟨ta, pa, ha⟩ := ha
  obtain ⟨tb, pb, hb⟩ := hb
  exact ⟨tOp (rNotInD Φ.K) ta tb, fun i => pe_cmpR (by rw [← Φ.hK i]; exact op_notInD (Φ.hu i)) (pa i) (pb i) hm, he_inQ (K := Φ.K) (fun H x y d ds Q h1 h2 h3 h4 q => ⟨d, ds, h1, h2, h3, h4, by simpa using q⟩) ha hb⟩
theorem st_inT {op : CmpOp} {r : R2} {a b : Expr} {pos : Pos} {m : M D} {ta tb : TE} (ho : ∀ i, OpR (Φ.X i) (compareOp op) r) (pa : ∀ i, PE (Φ.X i) a ta) (pb : ∀ i, PE (Φ.X i) b tb) (hm : behindInMarks op b = false) (h : HE Φ.mg Φ.W (tOp r ta tb) m) : ST Φ (.Compare a [op] [b] pos) (boolM m) := by
  refine ⟨_, fun i => pt_cmpR (ho i) (pa i) (pb i) hm, fun F G ρ σ H Q R s => ?_⟩
  refine h F G ρ σ H _ R (s.bind.imp (fun d ρ' q G' H' v R' sg r => ?_) fun _ _ z => z)
  obtain ⟨b, e1, q⟩ := q.opt
  cases r with
  | bl b' => cases e1; exact ⟨_, rfl, q G' H' R' sg⟩
  | _ => cases e1
theorem st_inQ {a b : Expr} {pos : Pos} {ma : M D} {mb : M (SK × List D)} (ha : SE Φ a ma) (hb : SQ Φ b mb) (hm : behindInMarks .In b = false := by rfl) : ST Φ (.Compare a [.In] [b] pos) (boolM (inQM false ma mb)) := by
  obtain ⟨ta, pa, ha⟩ := ha
  obtain ⟨tb, pb, hb⟩ := hb
  exact st_inT (r := rInD Φ.K) (fun i => by rw [← Φ.hK i]; exact op_inD (Φ.hu i)) pa pb hm (he_inQ (K := Φ.K) (fun H x y d ds Q h1 h2 h3 h4 q => ⟨d, ds, h1, h2, h3, h4, by simpa using q⟩) ha hb)
theorem st_inQn {a b : Expr} {pos : Pos} {ma : M D} {mb : M (SK × List D)} (ha : SE Φ a ma) (hb : SQ Φ b mb) (hm : behindInMarks .NotIn b = false := by rfl) : ST Φ (.Compare a [.NotIn] [b] pos) (boolM (inQM true ma mb)) := by
  obtain ⟨ta, pa, ha⟩ := ha
  obtain ⟨tb, pb, hb⟩ := hb
  exact st_inT (r := rNotInD Φ.K) (fun i => by rw [← Φ.hK i]; exact op_notInD (Φ.hu i)) pa pb hm (he_inQ (K := Φ.K) (fun H x y d ds Q h1 h2 h3 h4 q => ⟨d, ds, h1, h2, h3, h4, by simpa using q⟩) ha hb)
end
def tupQF (k : SK) (ds : List D) : Option D := match k with | .l => some (.tup ds) | _ => none
def joinM (mo : M D) (m : M (SK × List D)) : M D := bindM mo fun d => match d with
  | .str a => bindM m fun z => optM (joinF (.str a) z)
  | _ => noM
def bitsF : D → Option D
  | .int i => some (.int (Builtin.Int.intBits i : Nat))
  | _ => none
def bitsM (mo : M D) : M D := bindM mo fun d => optM (bitsF d)
def negM (m : M D) : M D := bindM m fun d => optM (negF d)
def partM (m : M D) : M (Option Int) := bindM m fun d => optM ((partF d).map some)
def isiM (ts : List Ty) (m : M D) : M D := bindM m fun d => optM (isiF ts d)
def itM (f : D → Option (List D)) (m : M D) : M (List D) := bindM m fun d => optM (f d)
def enF (d : D) : Option (List D) := (seqF d).map fun q => enD q.2
def ownC (m : M Dv) : M Dv := bindM m fun w => optM (ownF w)
def catM (a : M D) (b : M (SK × List D)) : M Dv := bindM a fun x => bindM b fun y => optM (((seqF x).bind fun q => catQ q y).map fun z => Dv.o false z)
def landM (a : M D) (b : M D) : M D := bindM (boolM a) fun x => if x = true then b else pureM (.bl false)
def lorM (a : M D) (b : M D) : M D := bindM (boolM a) fun x => if x = true then pureM (.bl true) else b
def lenQF (_ : SK) (ds : List D) : Option D := some (.int ds.length)
def gcdF : List D → Option D := f2 (i2F fun a b => ((Nat.gcd a.natAbs b.natAbs : Nat) : Int))
/-- raise X(e), X keeping e as its field f -/
def raiseP (x f : Str) (m : M D) : M Fw := bindM m fun d ρ => .ex ⟨x, some (f, d)⟩ ρ
end Fl
end

section
set_option Elab.async false
set_option linter.all false
set_option maxRecDepth 100000
set_option autoImplicit false
/-! Fl, part S: an own exception class over ValueError whose __init__ says super().__init__(e) and self.f = p. -/
namespace Fl
open PySem PySem.Spec PyProof.Rows L2

/-- what the written part says of such a class -/
structure SupC (P : Program) (K : PySem.W.Frag) (mg : Str → Option Value) (C fI cc cda : Addr) (st : Stmt) (qual : Str) (fd : FuncData) : Prop where
  oex : OexC K C
  ini : PySem.W.findIn K (.ref C) "__init__" = some (some (.ref fI))
  tfn : PySem.W.typeIn K (.ref fI) = some (.type "function")
  fn : ∃ (oc : Value) (od : Option Addr) (kV doc pm : Value) (an : Option Addr) (ct : Value) (osl : Array (Option Value)),
    fd = PySem.W.ksFn "__init__" qual (defArgs st) (defBody st) (defScope st) .none kV doc pm an (.ref cda) ct cc ∧ K.lookup fI = some ⟨oc, od, .func fd, osl⟩ ∧ PySem.W.codeIn K (.ref cda) qual = true
  cod : ∃ (oc : Value) (od : Option Addr) (vs : Array Value) (file : Str) (tf : Tok) (osl : Array (Option Value)), K.lookup cda = some ⟨oc, od, .fields vs, osl⟩ ∧ vs[2]? = some (.str file tf) ∧ ((P.main.file : Str) == file) = true
  cel : ∃ (oc : Value) (od : Option Addr) (osl : Array (Option Value)), K.lookup cc = some ⟨oc, od, .cell (some (.ref C)), osl⟩
  cls : ∃ cd, PySem.W.clsIn K C = some cd
  sub : PySem.W.mroIn K C (.ref C) = some true
  sup : PySem.W.ks_superIn K C C "__init__" = some (some (.builtin "ValueError.__init__"))
  val : PySem.W.subIn K (.ref C) (.type "ValueError") = some true
  opq : PySem.W.nsIn K cStatics "thirdparty.any" = some none
  fre : mg "super" = none
section
open PySem.W PySem.Calls
variable {X : Cx} {σ : L2.St} {H : Hp} {s : Shared} {a C fI cc cda L : Addr} {st : Stmt} {q : Str} {fd : FuncData} {body : List Stmt} {E : Value → Shared → Prop}
/-- super() there: a new super object -/
theorem sup_obj {p0 p1 : Pos} {whole : Sem Value} {ar : PySem.Arg} {Q : Value → Shared → Prop} (Z : SupC X.prog X.K X.mg C fI cc cda st q fd) (I : Inv X [] σ H s) (henv : X.env = ksEnv q (defScope st) L fI (.ref cda) cc) (ha : H a = some (exo a C none))
    (hp : (fd.params.posonlyargs ++ fd.params.args).head? = some ar) (hself : ∃ m, s.heap.Ns X.env.locals m ∧ m ar.arg = some (.ref a)) (hks : (defScope st).names.lookup ("super" : Str) = some .globalImplicit) (hkc : (defScope st).names.lookup ("__class__" : Str) = some .free)
    (hka : (defScope st).names.lookup ar.arg = some .local) (hk : (defScope st).kind = .function) (htop : (X.prog.main.scope.names.lookup ("super" : Str)).isSome = false)
    (h : ∀ so h', (∀ b o, s.heap.get? b = some o → h'.get? b = some o) → h'.get? so = some (ks_superObj C a C) → Q (.ref so) { s with heap := h' }) :
    _root_.PySem.wpAt (model X.prog X.w) X.A (.func body X.env) (attributeBase (.Call (.Name "super" p0) [] [] p1) "__init__" X.env whole) Q E s := by
  have KX := I.kIn
  obtain ⟨oc, od, kV, doc, pm, an, ct, osl, efd, lf, hcd⟩ := Z.fn
  obtain ⟨c1, c2, vs, file, tf, c3, lc, hvs, hfile⟩ := Z.cod
  obtain ⟨e1, e2, e3, lcell⟩ := Z.cel
  obtain ⟨cd, hcls⟩ := Z.cls
  obtain ⟨t1, ho⟩ := exo_at I.hok ha
  obtain ⟨m, hns, hm⟩ := hself
  obtain ⟨mb, hb1, hb2⟩ := I.mod.blt
  have hg : s.heap.Ns X.env.globals X.mg := by rw [I.ok.glob]; exact I.mod.glob.keeps I.bk
  have hbb : s.heap.Ns X.env.builtins mb := by rw [I.ok.blt]; exact hb1.keeps I.bk
  obtain ⟨hp', g, d, tk, os⟩ := s
  obtain ⟨oD, hD1, hD2⟩ : ∃ oD, hp'.get? C = some oD ∧ oD.data = .cls cd := by
    unfold clsIn at hcls
    split at hcls
    · rename_i c d cd' sl look
      cases hcls
      exact ⟨_, KX _ _ look, rfl⟩
    · cases hcls
  rw [henv] at hg hbb hns ⊢
  refine ks_wpAt_super_base (env := ksEnv q (defScope st) L fI (.ref cda) cc) (file := file) (tf := tf) (vs := vs) hks hkc (by decide) rfl (KX _ _ lf) rfl hp rfl (KX _ _ lc) rfl hvs hfile htop ?_
  refine ks_loadName_global hk hks (loadGlobal_builtin (env := ksEnv q (defScope st) L fI (.ref cda) cc) hg Z.fre hbb ((hb2 _ (by decide)).trans (show bootBuiltins "super" = some (.type "super") by kernel_rfl)) ⟨rfl, ?_⟩)
  refine wpAny_loadName_free hk hkc rfl ⟨_, KX _ _ lcell, rfl⟩ ?_
  refine wpAny_loadName_local hk hka hns hm ?_
  refine ks_wpAny_isType_cls hD1 hD2 ⟨rfl, ?_⟩
  refine ks_wpAny_call_super hD1 hD2 ho rfl (fun c e => by cases e) (looks_mroIn KX Z.sub) (fun h' e k => ?_)
  exact h _ h' k e
theorem pin_new {mw : Obj} {h' : Heap} {tk' : Nat} (I : Inv X [] σ H s) (e : h'.get? s.heap.objs.size = some mw) (k : ∀ b o, s.heap.get? b = some o → h'.get? b = some o) (nc : ∀ v, mw.data ≠ .cell v) : Inv X [(s.heap.objs.size, mw)] σ H { s with heap := h', toks := tk' } := by
  have J : Inv X [] σ H { s with heap := h', toks := tk' } := I.kept k
  have f := I.fpOk (Nat.le_refl _) (I.hok.fresh (Nat.le_refl _))
  refine ⟨J.ok, J.os, J.bare, J.base, J.loc, J.cell, J.free, J.freeC, fun p hp => ?_, J.hok, J.len⟩
  rcases List.mem_append.mp hp with hp | hp
  · exact J.pin p (List.mem_append_left _ hp)
  · rw [List.mem_singleton.mp hp]
    exact ⟨e, f.1, f.2.1, f.2.2.1, nc⟩
theorem Inv.unpin1 {p : Addr × Obj} {s' : Shared} {H' : Hp} (I : Inv X [p] σ H' s') : Inv X [] σ H' s' :=
  ⟨I.ok, I.os, I.bare, I.base, I.loc, I.cell, I.free, I.freeC, fun q hq => I.pin q (List.mem_append.mpr (.inl (by simpa using hq))), I.hok, I.len⟩
/-- the bound __init__ called -/
theorem sup_run {u : Addr} {us : List Value} {Q : Value → Shared → Prop} {A : Around} (T : OexC X.K C) (I : Inv X [(u, kxs_mw "ValueError.__init__" a)] σ H s) (ha : H a = some (exo a C none)) (hl : us.length ≤ sizeLine) (h : ∀ s', Inv X [] σ H s' → Q .none s') :
    wpAny (model X.prog X.w) A (call (.ref u) us) Q E s := by
  obtain ⟨nm, q, N, bs, bm, sn, sub, ab, col, dd, k0, k1, k2, k3, k5, hC, hbm⟩ := T.cls
  obtain ⟨t1, ho⟩ := exo_at I.hok ha
  have hu := (I.pin (u, kxs_mw "ValueError.__init__" a) (by simp)).1
  have J0 := Inv.unpin1 I
  have KX := I.kIn
  obtain ⟨hp, g, d, t, os⟩ := s
  refine wpAny_call (codeAny_of_tree ?_)
  show wpAny _ A.in1 (callAny (.ref u) ⟨us, []⟩) _ _ _
  simp only [callAny]
  refine wpAny_bind (wpAny_load hu ?_)
  simp only [kxs_mw, show (Value.type "method-wrapper" == Value.type "method" || Value.type "method-wrapper" == Value.type "builtin_function_or_method" || Value.type "method-wrapper" == Value.type "method-wrapper") = true by decide, if_true]
  refine KFB.if_so (by decide) ?_
  refine wpAny_bind (check_bound_init F.excBase_ValueError.toExcCallFacts (KX _ _ hC) ho rfl ?_)
  refine wpAny_bind (wpAny_pure (wpAny_pure ?_))
  refine ⟨plainId_quiet F.excBase_ValueError.init.plain _, codeAny_builtin F.excBase_ValueError.initEntry ?_⟩
  refine exc_init_tree (cls := .ref C) (t0 := t1) (dv := none) (c2 := .none) (c3 := .none) (b4 := .bool false) ho hl fun h' k hx _ => ?_
  have J := J0.write (t' := t) (x := a) (e := a) (o := exo a C none) (by rw [ha]; exact True.intro) (.inl rfl) k ⟨_, hx⟩ (exo_ok hx)
  have eu : upd H a (exo a C none) = H := by
    funext b
    by_cases hb : b = a
    · rw [hb, upd_same, ha]
    · rw [upd_ne hb]
  rw [eu] at J
  exact h _ J
/-- the statement super().__init__(e): the object's args are laid anew, nothing of it is told -/
theorem sup_stmt {p0 p1 p2 pos pos' : Pos} {e : Expr} {t : TE} {ar : PySem.Arg} (Z : SupC X.prog X.K X.mg C fI cc cda st q fd) (I : Inv X [] σ H s) (henv : X.env = ksEnv q (defScope st) L fI (.ref cda) cc) (ha : H a = some (exo a C none))
    (hp : (fd.params.posonlyargs ++ fd.params.args).head? = some ar) (hself : ∃ m, s.heap.Ns X.env.locals m ∧ m ar.arg = some (.ref a)) (hks : (defScope st).names.lookup ("super" : Str) = some .globalImplicit) (hkc : (defScope st).names.lookup ("__class__" : Str) = some .free)
    (hka : (defScope st).names.lookup ar.arg = some .local) (hk : (defScope st).kind = .function) (htop : (X.prog.main.scope.names.lookup ("super" : Str)).isSome = false) (pe : PE X e t) (ht : t σ H fun v H' => H' = H)
    (hst : starEach [e] X.env = (false, eval e X.env) :: starEach [] X.env := by rfl) (hi : interactive X.env = false := by rfl) (hs : ∀ ee, swapsWith (.Call (.Attribute (.Call (.Name "super" p0) [] [] p1) "__init__" p2) [e] [] pos) none pos'.line ee = pure false := by intro _; rfl)
    (hc : ∃ pl : Sem Bool, eval (.Call (.Attribute (.Call (.Name "super" p0) [] [] p1) "__init__" p2) [e] [] pos) X.env = (do
      let ov ← attributeBase (.Call (.Name "super" p0) [] [] p1) "__init__" X.env (eval (.Call (.Name "super" p0) [] [] p1) X.env)
      standAt p2.atName
      let (f, first) ← holding [ov] (getMethod ov "__init__" pl)
      callWith pos f first (backTo pos (starEach [e] X.env)) []) := by exact ⟨_, rfl⟩) :
    _root_.PySem.wpAt (model X.prog X.w) X.A (.func body X.env) (exec (.Expr (.Call (.Attribute (.Call (.Name "super" p0) [] [] p1) "__init__" p2) [e] [] pos) pos') X.env) (fun fl s' => fl = .next ∧ Inv X [] σ H s') X.xe s := by
  obtain ⟨pl, hc⟩ := hc
  refine ks_wpAt_Expr_any (ks_wpAt_MethodCall (pl := pl) (sup_obj (Q := fun ov s1 => wpAny (model X.prog X.w) X.A (getMethod ov "__init__" pl) (fun fx s2 => wpAny (model X.prog X.w) X.A (callWith pos fx.1 fx.2 (backTo pos (starEach [e] X.env)) []) (fun _ s' => Flow.next = .next ∧ Inv X [] σ H s') X.xe s2) X.xe s1) Z I henv ha hp hself hks hkc hka hk htop fun so h' k hso => ?_) hc) hi (hs _)
  obtain ⟨cd, hcls⟩ := Z.cls
  have I1 : Inv X [] σ H { s with heap := h' } := I.kept (t' := s.toks) k
  have KX := I1.kIn
  obtain ⟨t1, ho⟩ := exo_at I1.hok ha
  have IA : InstAt h' a { cls := .ref C, dict := none, data := .fields #[.ref t1, .none, .none, .none, .bool false, .none] } C none := ⟨ho, rfl, rfl, trivial⟩
  have along : alongIn X.K "__init__" ((cd.mro.dropWhile (· != .ref C)).drop 1) = some (some (.builtin "ValueError.__init__")) := by
    have z := Z.sup
    unfold ks_superIn at z
    rw [hcls] at z
    exact z
  obtain ⟨hp1, g, d, tk, os⟩ := s
  refine kxs_getMethod kxs_ValueError hso (looks_opaque KX Z.opq) (l₀ := cd.mro) (fun A Q E s k q => wpAny_bind ((looks_clsIn KX hcls) A _ E s k (wpAny_pure q))) rfl KX along (IA.type.andThen (looks_subIn KX Z.val)) (ks_ne KX IA hcls) (by decide) ?_
  have I2 := pin_new (tk' := tk + 1) (mw := kxs_mw "ValueError.__init__" a) I1 (Heap.get?_push_at rfl rfl) (fun b o e => Heap.get?_push_of_some _ e) (fun v z => by cases z)
  show wpAny (model X.prog X.w) X.A (callWith pos (.ref h'.objs.size) [] (backTo pos (starEach [e] X.env)) []) _ X.xe _
  rw [hst]
  refine kxs_callWith (i := "ValueError.__init__") (x := a) rfl (evalArgs_plain ?_)
  refine spliced_cons (thn (pe.run _ _ σ H _ I2 ht) fun u s1 ⟨v, H1, I3, r1, eH⟩ => ?_)
  subst eH
  refine spliced_nil ⟨(I3.pin (h'.objs.size, kxs_mw "ValueError.__init__" a) (by simp)).1, ?_⟩
  exact sup_run Z.oex I3 ha (by show 1 ≤ sizeLine; rw [sizeLine_eq]; omega) fun s' J => ⟨rfl, J⟩
end
/-- the context of such an __init__ -/
def cxS (P : Program) (w : World) (K : PySem.W.Frag) (mg : Str → Option Value) (base : Heap) (N : List Str) (q : Str) (sc : Scope) (fI : Addr) (cda cc : Addr) (A : Around) (outer : List PySem.Env) (s : Shared) (H : Hp) (E : XK) : Cx :=
  { cxOf (CX P w) P w K mg base N q sc fI (.ref cda) A outer s H E with
    A := A.deeper (PySem.W.ksEnv q sc s.heap.objs.size fI (.ref cda) cc)
    env := PySem.W.ksEnv q sc s.heap.objs.size fI (.ref cda) cc
    stack := PySem.W.ksEnv q sc s.heap.objs.size fI (.ref cda) cc :: outer
    fn := fun x => x != "__class__"
    xe := fun e s' => wpAny (model P w) (A.deeper (PySem.W.ksEnv q sc s.heap.objs.size fI (.ref cda) cc)) (leaving (PySem.W.ksEnv q sc s.heap.objs.size fI (.ref cda) cc) e) (fun _ s'' => CX P w outer H s E e s'') (fun e' s'' => CX P w outer H s E e' s'') s' }
/-- an __init__ (self, p) with the two statements -/
structure IniSc (st : Stmt) (p f : Str) : Prop where
  kind : (defScope st).kind = .function
  co : (defScope st).isCoroutine = false
  gen : (defScope st).isGenerator = false
  self : (defScope st).names.lookup ("self" : Str) = some .local
  par : (defScope st).names.lookup p = some .local
  sup : (defScope st).names.lookup ("super" : Str) = some .globalImplicit
  cls : (defScope st).names.lookup ("__class__" : Str) = some .free
  nocell : ∀ x ∈ (defScope st).names, x.2 ≠ .cell
  free : ∀ x, (defScope st).names.lookup x = some .free → x = "__class__"
  ne : (("self" : Str) == p) = false
theorem start2 {v0 v1 : V} {x : Str} : start ["self", x] [v0, v1] = [some v0, some v1] := rfl
section
open PySem.W PySem.Calls
variable {P : Program} {w : World} {K : PySem.W.Frag} {mg : Str → Option Value} {base : Heap} {C fI cc cda : Addr} {st : Stmt} {q p f : Str} {fd : FuncData}
theorem ini_start {A : Around} {outer : List PySem.Env} {s : Shared} {H : Hp} {E : XK} {h1 : Heap} {v0 v1 : V} {u0 u1 : Value} {tk : Nat} (Z : SupC P K mg C fI cc cda st q fd) (S : IniSc st p f) (hd : A.handled = none) (e0 : Env0 P w K mg base A outer s H) (r0 : RelV v0 u0) (r1 : RelV v1 u1)
    (hns : h1.Ns s.heap.objs.size (fun x => ([(("self" : Str), u0), (p, u1)] : List (Str × Value)).reverse.lookup x)) (k : ∀ b o, s.heap.get? b = some o → h1.get? b = some o) :
    Inv (cxS P w K mg base ["self", p] q (defScope st) fI cda cc A outer s H E) [] [some v0, some v1] H { s with heap := h1, toks := tk } := by
  obtain ⟨c1, c2, c3, lcell⟩ := Z.cel
  have KB := e0.mod.kin
  have cb : base.get? cc = some _ := KB _ _ lcell
  have lk : ∀ x c, (cxS P w K mg base ["self", p] q (defScope st) fI cda cc A outer s H E).env.cells.lookup x = some c → x = "__class__" ∧ c = cc := fun x c h => by
    have h : ([(("__class__" : Str), cc)] : List (Str × Addr)).lookup x = some c := h
    unfold List.lookup at h
    split at h
    · rename_i z; cases h; exact ⟨beq_iff_eq.mp z, rfl⟩
    · cases h
  have kk : ∀ b o, base.get? b = some o → s.heap.get? b = some o := fun b o e => (e0.bs b o e).1
  have pne : p ≠ "self" := fun z => by have := S.ne; rw [z] at this; simp at this
  refine ⟨⟨e0.mod, S.kind, rfl, rfl, Nat.le_refl _, fun x y c a b => by rw [(lk x c a).1, (lk y c b).1], fun x hx => ?_, fun x c a b => ?_, fun _ => hd, Around.frames_deeper e0.frames, .inr ⟨rfl, rfl⟩, fun b z => absurd (show b ∈ ([] : List Addr) from z) (by simp), e0.bs, e0.bsz,
      fun b _ _ z => absurd (show b ∈ ([] : List Addr) from z) (by simp), fun b z => absurd (show b ∈ ([] : List Addr) from z) (by simp), e0.funs, e0.frf⟩,
    rfl, e0.bare, Un.kept k, ⟨_, hns, fun i x v h2 h3 h4 => ?_⟩, fun x c h => ?_, e0.hok.fresh (Nat.le_refl _), fun x c h => ?_, fun z hz => absurd (show z ∈ ([] : List (Addr × Obj)) from hz) (by simp), e0.hok.kept k, rfl⟩
  · have hx : (defScope st).names.lookup x = some .cell ∨ (defScope st).names.lookup x = some .free := hx
    rcases hx with hx | hx
    · exact absurd rfl (S.nocell _ (PySem.mem_of_lookup hx))
    · rw [S.free x hx]; exact ⟨cc, rfl⟩
  · have z := (lk x c b).1
    subst z
    exact absurd (show (("__class__" : Str) != "__class__") = true from a) (by simp)
  · match i, h2, h3 with
    | 0, h2, h3 =>
      have e1 : x = ("self" : Str) := (Option.some.inj (show some ("self" : Str) = some x from h2)).symm
      cases h3
      subst e1
      refine ⟨u0, r0, .inl ⟨S.self, ?_⟩⟩
      show ([(p, u1), (("self" : Str), u0)] : List (Str × Value)).lookup ("self" : Str) = some u0
      unfold List.lookup
      rw [S.ne]
      rfl
    | 1, h2, h3 =>
      have e1 : x = p := (Option.some.inj (show some p = some x from h2)).symm
      cases h3
      subst e1
      refine ⟨u1, r1, .inl ⟨S.par, ?_⟩⟩
      show ([(x, u1), (("self" : Str), u0)] : List (Str × Value)).lookup x = some u1
      unfold List.lookup
      rw [beq_self_eq_true]
    | n + 2, h2, h3 => exact nomatch (show (none : Option V) = some v from (by simpa using h3))
  · obtain ⟨z1, z2⟩ := lk x c h
    subst z2
    exact ⟨_, _, k _ _ (kk _ _ cb), rfl⟩
  · obtain ⟨z1, z2⟩ := lk x c h
    subst z2
    exact (e0.bs _ _ cb).2
def spIni (C : Addr) (f : Str) (Cnd : V → Prop) : Sp := fun vs H Q _ => ∃ (a : Addr) (v : V), vs = [.ref a, v] ∧ Cnd v ∧ H a = some (exo a C none) ∧ ∀ dx, H dx = none → dx ≠ a → Q .non (upd (upd H dx (exd dx [(f, v)])) a (exo a C (some dx)))
theorem ini_ok {p0 p1 p2 p3 p4 p5 p6 pos pos' : Pos} {e : Expr} {t : TE} {ar : PySem.Arg} {Cnd : V → Prop} (Z : SupC P K mg C fI cc cda st q fd) (S : IniSc st p f)
    (hbody : defBody st = [.Expr (.Call (.Attribute (.Call (.Name "super" p0) [] [] p1) "__init__" p2) [e] [] pos) pos', .Assign [.Attribute (.Name "self" p3) f p4] (.Name p p5) p6])
    (hp : ((defArgs st).posonlyargs ++ (defArgs st).args).head? = some ar) (har : ar.arg = "self") (hfld : findIn K (.ref C) f = some none) (htop : (P.main.scope.names.lookup ("super" : Str)).isSome = false)
    (hd1 : (p == ("__debug__" : Str)) = false) (hd2 : (p == ("__classdict__" : Str)) = false)
    (pe : ∀ X : Cx, X.prog = P → X.w = w → X.K = K → X.mg = mg → X.env.scope = defScope st → X.N = [("self" : Str), p] → X.calm = true → PE X e t) (ht : ∀ v0 v1 H, Cnd v1 → t [some v0, some v1] H fun _ H' => H' = H)
    (hst : ∀ env, starEach [e] env = (false, eval e env) :: starEach [] env := by intro _; first | rfl | with_unfolding_all rfl)
    (hs : ∀ ee, swapsWith (.Call (.Attribute (.Call (.Name "super" p0) [] [] p1) "__init__" p2) [e] [] pos) none pos'.line ee = pure false := by intro _; first | rfl | with_unfolding_all rfl)
    (hs2 : ∀ ee, swapsWith (.Name p p5) (some (.Attribute (.Name "self" p3) f p4)) p6.line ee = pure false := by intro _; first | rfl | with_unfolding_all rfl)
    (hc : ∀ ee : PySem.Env, ∃ pl : Sem Bool, eval (.Call (.Attribute (.Call (.Name "super" p0) [] [] p1) "__init__" p2) [e] [] pos) ee = (do
      let ov ← attributeBase (.Call (.Name "super" p0) [] [] p1) "__init__" ee (eval (.Call (.Name "super" p0) [] [] p1) ee)
      standAt p2.atName
      let (f, first) ← holding [ov] (getMethod ov "__init__" pl)
      callWith pos f first (backTo pos (starEach [e] ee)) []) := by intro _; exact ⟨_, rfl⟩) :
    FnOk P w K mg base (CX P w) 1 fI fd [("self" : Str), p] (spIni C f Cnd) := by
  refine ⟨fun vs H Q E h => by obtain ⟨a, v, rfl, _⟩ := h; rfl, fun A outer s H args us vs Q E hr e0 hb r hsp => ?_⟩
  obtain ⟨a, v, rfl, hv, ha, hq⟩ := hsp
  obtain ⟨u0, u1, rfl, r0, r1⟩ := vals2 r
  obtain ⟨oc, od, kV, doc, pm, an, ct, osl, rfl, lf, hcd⟩ := Z.fn
  have KX : K.In s.heap := e0.mod.kin.keeps fun b o e => (e0.bs b o e).1
  have lim : s.heap.NoLimit := e0.mod.nolimit.keeps fun b o e => (e0.bs b o e).1
  refine ks_codeAny_call_defAt (body := defBody st) hr.depth (KX _ _ lf) rfl lim (codeRec_of KX hcd) rfl hb S.nocell (fun x hx => ?_) (fun h1 hns k => ?_) S.co S.gen S.kind
  · have hx : x ∈ ([(("self" : Str), u0), (p, u1)] : List (Str × Value)) := hx
    rcases List.mem_cons.mp hx with z | z
    · rw [z]; exact S.self
    · rw [List.mem_singleton.mp z]; exact S.par
  · have I := ini_start (E := E) (tk := s.toks + 2) Z S hr.hd e0 r0 r1 hns k
    have hm : ([(p, u1), (("self" : Str), u0)] : List (Str × Value)).lookup ("self" : Str) = some u0 := by
      unfold List.lookup
      rw [S.ne]
      rfl
    have hu0 : u0 = Value.ref a := r0
    rw [hbody]
    refine ks_wpAt_execs_cons (ks_wpAt_mono (sup_stmt (X := cxS P w K mg base ["self", p] q (defScope st) fI cda cc A outer s H E) (body := [.Expr (.Call (.Attribute (.Call (.Name "super" p0) [] [] p1) "__init__" p2) [e] [] pos) pos', .Assign [.Attribute (.Name "self" p3) f p4] (.Name p p5) p6]) Z I rfl ha hp
      ⟨_, hns, by rw [har, ← hu0]; exact hm⟩ S.sup S.cls (by rw [har]; exact S.self) S.kind htop (pe _ rfl rfl rfl rfl rfl rfl rfl) (ht _ _ _ hv) (hst _) (by unfold interactive; rw [show (cxS P w K mg base ["self", p] q (defScope st) fI cda cc A outer s H E).env.scope.kind = _ from S.kind]; rfl) hs (hc _)) (fun fl s1 hh => ?_) (fun _ _ z => z))
    obtain ⟨rfl, J⟩ := hh
    refine wpAt_of_wpAny ?_
    have pst : PSs (cxS P w K mg base ["self", p] q (defScope st) fI cda cc A outer s H E) [.Assign [.Attribute (.Name "self" p3) f p4] (.Name p p5) p6] (tOst K f (tVar 0) (tVar 1)) :=
      pss_one (ps_ost (pe_var rfl (.inl S.self)) (pe_var rfl (.inl S.par) hd1 hd2) (hs2 _))
    refine wpAny_mono (pst.run [] s1 [some (.ref a), some v] H { nx := fun _ H' => Q .non H', rt := Q } J ?_) (fun fl s2 h2 => ?_) (fun e s2 z => z)
    · exact ⟨v, rfl, .ref a, rfl, a, C, rfl, Z.oex, hfld, .inl ⟨ha, hq⟩⟩
    · cases fl with
      | next =>
        obtain ⟨σ', H', J', q'⟩ := h2
        exact ⟨.non, H', J'.os, J'.bare, J'.base, J'.hok, rfl, q'⟩
      | ret u =>
        obtain ⟨v', σ', H', J', rv, q'⟩ := h2
        exact ⟨v', H', J'.os, J'.bare, J'.base, J'.hok, rv, q'⟩
      | brk => obtain ⟨_, _, _, q'⟩ := h2; exact q'.elim
      | cont => obtain ⟨_, _, _, q'⟩ := h2; exact q'.elim
end
end Fl
end

section
set_option Elab.async false
set_option linter.all false
set_option maxRecDepth 100000
set_option autoImplicit false
/-! Fl, part V: raising such an exception; making one and reading its field. -/
namespace Fl
open PySem PySem.Spec PyProof.Rows L2

/-- the class x keeps its one argument as f; g: what its __init__ may be given -/
def PayOk (P : Program) (w : World) (K : PySem.W.Frag) (mg : Str → Option Value) (base : Heap) (x f : Str) (g : D → Bool) : Prop :=
  ∃ (C fI : Addr) (fd : FuncData) (p : Str) (Cnd : V → Prop), mg x = some (.ref C) ∧ OexC K C ∧ PySem.W.findIn K (.ref C) "__init__" = some (some (.ref fI)) ∧ PySem.W.typeIn K (.ref fI) = some (.type "function") ∧
    FnOk P w K mg base (CX P w) 1 fI fd [("self" : Str), p] (spIni C f Cnd) ∧ Binds K fd [("self" : Str), p] [] ∧ ∀ (mg : Mg) (G : Hp) (v : V) (d : D), Rp mg G v d → g d = true → Cnd v
section
variable {mg : Mg} {F : Fr} {G : Hp} {ρ : Env} {σ : L2.St} {H : Hp}
theorem Rel.lay (R : Rel mg F G ρ σ H) {a : Addr} (e : H a = none) (o : HO) : Rel mg F G ρ σ (upd H a o) :=
  R.ext ⟨fun b x q => by rw [upd_ne (fun z => by rw [z, e] at q; cases q)]; exact q, Same.rfl, same_alloc R.sub e o, fun b q n => absurd q n⟩
end
theorem lay_eq {H : Hp} {a dx C : Addr} {f : Str} {v : V} (ha : H a = none) (hne : dx ≠ a) : upd (del (upd (upd (upd H a (exo a C none)) dx (exd dx [(f, v)])) a (exo a C (some dx))) a) dx (.xd [(f, v)]) = upd H dx (.xd [(f, v)]) := by
  funext b
  by_cases h1 : b = dx
  · subst h1; rw [upd_same, upd_same]
  · rw [upd_ne h1, upd_ne h1]
    by_cases h2 : b = a
    · subst h2; rw [del_same, ha]
    · rw [del_ne h2, upd_ne h2, upd_ne h1, upd_ne h2]
section
variable {Φ : Fam}
/-- raise X(e), with the condition -/
def raisePM (x f : Str) (g : D → Bool) (m : M D) : M Fw := bindM m fun d ρ => if g d = true then .ex ⟨x, some (f, d)⟩ ρ else .no
theorem mk_run {C : Addr} {f : Str} {Cnd : V → Prop} {Q : XK} {H1 : Hp} {v : V} (hv : Cnd v) (q : ∀ dx, H1 dx = none → Q (.ref C) (some dx) (upd H1 dx (.xd [(f, v)]))) (a : Addr) (ha : H1 a = none) :
    spIni C f Cnd (.ref a :: ([v] ++ [])) (upd H1 a (exo a C none)) (fun u H2 => u = .non ∧ ∃ (d : Addr) (fs : List (Str × V)), H2 a = some (exo a C (some d)) ∧ H2 d = some (exd d fs) ∧ H1 d = none ∧ Q (.ref C) (some d) (upd (del H2 a) d (.xd fs))) (fun _ _ _ => False) := by
  refine ⟨a, v, rfl, hv, upd_same, fun dx hx hne => ⟨rfl, dx, [(f, v)], upd_same, by rw [upd_ne hne, upd_same], by rw [upd_ne hne] at hx; exact hx, ?_⟩⟩
  rw [lay_eq ha hne]
  exact q dx (by rw [upd_ne hne] at hx; exact hx)
theorem ss_raiseP {x f : Str} {g : D → Bool} {e : Expr} {m : M D} {p pos pos' : Pos} (hex : Φ.mg.ex = none) (Z : PayOk Φ.P Φ.w Φ.K Φ.mg.f Φ.base x f g) (hk : 2 ≤ Φ.k) (hg : Φ.sc.names.lookup x = some .globalImplicit) (h : SE Φ e m)
    (hd : (x == ("__debug__" : Str)) = false := by decide) (hst : ∀ env, starEach [e] env = (false, eval e env) :: starEach [] env := by intro _; first | rfl | with_unfolding_all rfl) (hc : Φ.cal = true := by rfl) : SS Φ (.Raise (some (.Call (.Name x p) [e] [] pos)) none pos') (raisePM x f g m) := by
  obtain ⟨C, fI, fd, pp, Cnd, hm, oex, ini, tfn, F1, hb, hcnd⟩ := Z
  obtain ⟨t, pe, h⟩ := h
  refine ⟨fun Zd σ H => tMkO C (spIni C f Cnd) [] (tCons t tNil) σ H fun cls d H' => Φ.W cls d σ H', fun i => ?_, fun Fm G ρ σ H Zd R s => ?_⟩
  · have F1' : FnOk (Φ.X i).prog (Φ.X i).w (Φ.X i).K (Φ.X i).mg (Φ.X i).base (L2.CX (Φ.X i).prog (Φ.X i).w) 1 fI fd [("self" : Str), pp] (spIni C f Cnd) := by
      rw [Φ.hP i, Φ.hw i, Φ.hK i, Φ.hmg i, Φ.hbase i]; exact F1
    exact ps_raise (Φ.calm hc i) (Φ.takes i) (pmk_oex (k := 1) (by rw [Φ.hK i]; exact oex) (by rw [Φ.hK i]; exact ini) (by rw [Φ.hK i]; exact tfn) F1' ((Φ.rm hc i).mono hk) (by rw [Φ.hK i]; exact hb) .nil passL (Φ.gl hg i) (by rw [Φ.hmg i]; exact hm) (pa_cons (pe i) pa_nil (hst _)) hd (hst _) rfl)
  · refine h Fm G ρ σ H _ R (s.bind.imp (fun d ρ1 q G1 H1 v R1 s1 r => ?_) fun _ _ z => z)
    by_cases hgd : g d = true
    rotate_left
    · rw [if_neg hgd] at q; exact q.elim
    rw [if_pos hgd] at q
    refine ⟨by show 1 ≤ 1000; decide, fun a ha => mk_run (Q := fun cls d H' => Φ.W cls d σ H') (hcnd _ _ _ _ r hgd) (fun dx hx => ?_) a ha⟩
    refine q G1 σ _ _ _ (R1.lay hx _) ⟨hm, dx, v, rfl, upd_same, r, none_of_same R1.sub hx⟩
/-! ### X(e).f -/
def tMkF (K : PySem.W.Frag) (f : Str) (t : L2.St → Hp → XK → Prop) : TE := fun σ H Q => t σ H fun cls d H' => ∃ (C dd : Addr) (fs : List (Str × V)) (v : V), cls = .ref C ∧ XfC K C ∧ PySem.W.findIn K (.ref C) f = some none ∧ d = some dd ∧ H' dd = some (.xd fs) ∧ fs.lookup f = some v ∧ Q v H'
theorem pe_mkf {X : Cx} {e : Expr} {f : Str} {t : L2.St → Hp → XK → Prop} {pos : Pos} (he : PMk X e t) (hb : attributeBase e f X.env (eval e X.env) = eval e X.env := by rfl) : PE X (.Attribute e f pos) (tMkF X.K f t) := by
  refine ⟨fun pins s σ H Q I h => ?_⟩
  refine attr_of hb (thn (he pins s σ H _ I h) fun u s1 hh => ?_)
  obtain ⟨a, oe, vs, sI, H', cls, d, rfl, J, k, hne, ha, hz, hd, h1, na, os, ag, r, C, dd, fs, v, ec, xf, fn, ed, hx, l, q⟩ := hh
  subst ec ed
  have J1 : Inv X pins σ H' s1 := by
    have z := J.kept (t' := s1.toks) k
    exact ⟨z.ok, os.trans z.os, ag, z.base, z.loc, z.cell, z.free, z.freeC, z.pin, z.hok, z.len⟩
  have hx' : ObjOk X.prog X.w H' s1.heap dd (.xd fs) := J1.hok dd _ hx
  obtain ⟨mA, hns, hr⟩ := hx'
  obtain ⟨od, ho, hl⟩ := lookIn_ns hns
  obtain ⟨u, hu, ru⟩ := RelO.some_of (v := v) (o := mA f) (by rw [← l]; exact hr f)
  have JA : PySem.W.InstAt s1.heap a oe C (some od) := ⟨ha, hz.1, by unfold PySem.W.notCls; rw [hd], by rw [hz.2]; exact ho⟩
  exact HandSPX.exc_get J1.kIn JA xf.ga xf.gg xf.exC (PySem.W.findObj_own xf.hdC fn rfl (by rw [hl, hu])) (handed_of ru) ⟨v, H', J1.tok _, ru, q⟩
def mkfM (g : D → Bool) (m : M D) : M D := bindM m fun d => optM (if g d = true then some d else none)
theorem se_mkf {x f : Str} {g : D → Bool} {e : Expr} {m : M D} {p pos pos' : Pos} (Z : PayOk Φ.P Φ.w Φ.K Φ.mg.f Φ.base x f g) (hx : ∃ C, Φ.mg.f x = some (.ref C) ∧ XfC Φ.K C ∧ PySem.W.findIn Φ.K (.ref C) f = some none) (hk : 2 ≤ Φ.k) (hg : Φ.sc.names.lookup x = some .globalImplicit) (h : SE Φ e m)
    (hd : (x == ("__debug__" : Str)) = false := by decide) (hst : ∀ env, starEach [e] env = (false, eval e env) :: starEach [] env := by intro _; first | rfl | with_unfolding_all rfl)
    (hb : ∀ env, attributeBase (.Call (.Name x p) [e] [] pos) f env (eval (.Call (.Name x p) [e] [] pos) env) = eval (.Call (.Name x p) [e] [] pos) env := by intro _; first | rfl | with_unfolding_all rfl) (hc : Φ.cal = true := by rfl) :
    SE Φ (.Attribute (.Call (.Name x p) [e] [] pos) f pos') (mkfM g m) := by
  obtain ⟨C, fI, fd, pp, Cnd, hm, oex, ini, tfn, F1, hbn, hcnd⟩ := Z
  obtain ⟨C', hm', xf, fn⟩ := hx
  rw [hm] at hm'
  cases hm'
  obtain ⟨t, pe, h⟩ := h
  refine ⟨tMkF Φ.K f (tMkO C (spIni C f Cnd) [] (tCons t tNil)), fun i => ?_, fun Fm G ρ σ H Q R s => ?_⟩
  · have F1' : FnOk (Φ.X i).prog (Φ.X i).w (Φ.X i).K (Φ.X i).mg (Φ.X i).base (L2.CX (Φ.X i).prog (Φ.X i).w) 1 fI fd [("self" : Str), pp] (spIni C f Cnd) := by
      rw [Φ.hP i, Φ.hw i, Φ.hK i, Φ.hmg i, Φ.hbase i]; exact F1
    have z := pe_mkf (pos := pos') (pmk_oex (pos := pos) (k := 1) (by rw [Φ.hK i]; exact oex) (by rw [Φ.hK i]; exact ini) (by rw [Φ.hK i]; exact tfn) F1' ((Φ.rm hc i).mono hk) (by rw [Φ.hK i]; exact hbn) .nil passL (Φ.gl hg i) (by rw [Φ.hmg i]; exact hm) (pa_cons (pe i) pa_nil (hst _)) hd (hst _) rfl) (hb _)
    rw [Φ.hK i] at z
    exact z
  · refine h Fm G ρ σ H _ R (s.bind.imp (fun d ρ1 q G1 H1 v R1 s1 r => ?_) fun _ _ z => z)
    obtain ⟨z, e1, q⟩ := q.opt
    split at e1
    rotate_left
    · cases e1
    rename_i hgd
    cases e1
    refine ⟨by show 1 ≤ 1000; decide, fun a ha => mk_run (Q := fun cls d H' => ∃ (C : Addr) (dd : Addr) (fs : List (Str × V)) (v : V), cls = .ref C ∧ XfC Φ.K C ∧ PySem.W.findIn Φ.K (.ref C) f = some none ∧ d = some dd ∧ H' dd = some (.xd fs) ∧ fs.lookup f = some v ∧ Q v H') (hcnd _ _ _ _ r hgd) (fun dx hx => ?_) a ha⟩
    exact ⟨C, dx, [(f, v)], v, rfl, xf, fn, rfl, upd_same, by simp [List.lookup], q G1 _ v (R1.lay hx _) s1 r⟩
end
/-! ### tables of classes -/
def CatTab (K : PySem.W.Frag) (f : Str → Option Value) (tab : List (Str × Bool)) (cv : Value) : Prop := ∀ x b, tab.lookup x = some b → ∃ D, f x = some (.ref D) ∧ PySem.W.exmOne K (.ref D) cv = some b
theorem CatTab.is {Φ : Fam} {tab : List (Str × Bool)} {cv : Value} (h : CatTab Φ.K Φ.mg.f tab cv) : CatIs Φ (fun x => tab.lookup x) cv := fun x b cls h1 h2 => by
  obtain ⟨D, e1, e2⟩ := h x b h1
  rw [e1] at h2
  cases h2
  exact e2
theorem nm_own {Φ : Fam} {x : Str} {C : Addr} (hg : Φ.sc.names.lookup x = some .globalImplicit) (hm : Φ.mg.f x = some (.ref C)) (hd : (x == ("__debug__" : Str)) = false := by decide) : NameIs Φ x (.ref C) := ⟨hg, hd, .inl hm⟩
def anyD : D → Bool := fun _ => true
def smallD : D → Bool
  | .int i => decide (i.natAbs.log2 < 1920)
  | _ => false
end Fl
end

section
set_option Elab.async false
set_option linter.all false
set_option maxRecDepth 100000
set_option autoImplicit false
/-! Fl, part W: what a mirror does, by backward steps. -/
namespace Fl
open PySem

def Tr {α : Type} (o : Out α) (P : α → Env → Prop) : Prop := match o with
  | .ok a ρ => P a ρ
  | _ => False
def RS (r : R) (P : Dv → List Dv → Prop) : Prop := match r with
  | .ok w ws => P w ws
  | _ => False
section
variable {α β : Type} {ρ : Env} {P Q : α → Env → Prop}
theorem Tr.mono {o : Out α} (h : Tr o P) (k : ∀ a ρ, P a ρ → Q a ρ) : Tr o Q := by
  cases o with
  | ok a ρ => exact k _ _ h
  | ex _ _ => exact h
  | no => exact h
theorem RS.mono {r : R} {P Q : Dv → List Dv → Prop} (h : RS r P) (k : ∀ w ws, P w ws → Q w ws) : RS r Q := by
  cases r with
  | ok w ws => exact k _ _ h
  | ex _ => exact h
  | no => exact h
theorem RS_ok {w : Dv} {ws : List Dv} {P : Dv → List Dv → Prop} : RS (.ok w ws) P = P w ws := rfl
theorem Tr_ok {a : α} : Tr (.ok a ρ) P = P a ρ := rfl
theorem Tr_no : Tr (.no : Out α) P = False := rfl
theorem Tr_bind {m : M α} {f : α → M β} {P : β → Env → Prop} : Tr (bindM m f ρ) P = Tr (m ρ) fun a ρ1 => Tr (f a ρ1) P := by
  unfold bindM
  cases m ρ <;> rfl
theorem Tr_pure {a : α} : Tr (pureM a ρ) P = P a ρ := rfl
theorem Tr_some {a : α} : Tr (optM (some a) ρ) P = P a ρ := rfl
theorem Tr_none : Tr (optM (none : Option α) ρ) P = False := rfl
theorem Tr_noM : Tr ((noM : M α) ρ) P = False := rfl
theorem Tr_if {c : Prop} [Decidable c] {a : α} : Tr (optM (if c then some a else none) ρ) P = (c ∧ P a ρ) := by
  split
  · rename_i h; simp [h, Tr_some]
  · rename_i h; simp [h, Tr_none]
theorem Tr_seqS {a b : M Fw} {P : Fw → Env → Prop} : Tr (seqS a b ρ) P = Tr (a ρ) fun fl ρ1 => match fl with
    | .nx => Tr (b ρ1) P
    | fl => P fl ρ1 := by
  unfold seqS
  rw [Tr_bind]
  congr 1
  funext fl ρ1
  cases fl <;> rfl
theorem Tr_ifM {c : M Bool} {a b : M α} : Tr (ifM c a b ρ) P = Tr (c ρ) fun x ρ1 => if x = true then Tr (a ρ1) P else Tr (b ρ1) P := by
  unfold ifM
  rw [Tr_bind]
  congr 1
  funext x ρ1
  cases x <;> rfl
theorem Tr_var {i : Nat} {P : D → Env → Prop} : Tr (varM i ρ) P = match ρ[i]? with
    | some (some (.p d)) => P d ρ
    | _ => False := by
  unfold varM
  cases ρ[i]? with
  | none => rfl
  | some y => cases y with
    | none => rfl
    | some w => cases w <;> rfl
theorem Tr_putS {i : Nat} {w : Dv} {P : Fw → Env → Prop} : Tr (putS i w ρ) P = (okSlot ρ i = true ∧ P .nx (ρ.set i (some w))) := by
  unfold putS
  split
  · rename_i h; simp [h, Tr_ok]
  · rename_i h; simp [h, Tr_no]
theorem Tr_setM {i : Nat} {m : M D} {P : Fw → Env → Prop} : Tr (setM i m ρ) P = Tr (m ρ) fun d ρ1 => okSlot ρ1 i = true ∧ P .nx (ρ1.set i (some (.p d))) := by
  unfold setM
  rw [Tr_bind]
  simp only [Tr_putS]
theorem Tr_setO {i : Nat} {m : M Dv} {P : Fw → Env → Prop} : Tr (setO i m ρ) P = Tr (m ρ) fun w ρ1 => okSlot ρ1 i = true ∧ P .nx (ρ1.set i (some w)) := by
  unfold setO
  rw [Tr_bind]
  simp only [Tr_putS]
theorem Tr_op2 {f : D → D → Option D} {a b : M D} {P : D → Env → Prop} : Tr (op2M f a b ρ) P = Tr (a ρ) fun x ρ1 => Tr (b ρ1) fun y ρ2 => Tr (optM (f x y) ρ2) P := by
  unfold op2M
  simp only [Tr_bind]
theorem Tr_boolM {m : M D} {P : Bool → Env → Prop} : Tr (boolM m ρ) P = Tr (m ρ) fun d ρ1 => Tr (optM (toB d) ρ1) P := by
  unfold boolM
  simp only [Tr_bind]
theorem Tr_notM {m : M Bool} {P : Bool → Env → Prop} : Tr (notM m ρ) P = Tr (m ρ) fun d ρ1 => P (!d) ρ1 := by
  unfold notM
  simp only [Tr_bind, Tr_pure]
theorem Tr_andM {a b : M Bool} {P : Bool → Env → Prop} : Tr (andM a b ρ) P = Tr (a ρ) fun x ρ1 => if x = true then Tr (b ρ1) P else P false ρ1 := by
  unfold andM
  rw [Tr_bind]
  congr 1
  funext x ρ1
  cases x <;> rfl
theorem Tr_orM {a b : M Bool} {P : Bool → Env → Prop} : Tr (orM a b ρ) P = Tr (a ρ) fun x ρ1 => if x = true then P true ρ1 else Tr (b ρ1) P := by
  unfold orM
  rw [Tr_bind]
  congr 1
  funext x ρ1
  cases x <;> rfl
theorem Tr_landM {a b : M D} {P : D → Env → Prop} : Tr (landM a b ρ) P = Tr (boolM a ρ) fun x ρ1 => if x = true then Tr (b ρ1) P else P (.bl false) ρ1 := by
  unfold landM
  rw [Tr_bind]
  congr 1
  funext x ρ1
  cases x <;> rfl
theorem Tr_lorM {a b : M D} {P : D → Env → Prop} : Tr (lorM a b ρ) P = Tr (boolM a ρ) fun x ρ1 => if x = true then P (.bl true) ρ1 else Tr (b ρ1) P := by
  unfold lorM
  rw [Tr_bind]
  congr 1
  funext x ρ1
  cases x <;> rfl
theorem Tr_bM {m : M Bool} {P : D → Env → Prop} : Tr (bM m ρ) P = Tr (m ρ) fun b ρ1 => P (.bl b) ρ1 := by
  unfold bM
  simp only [Tr_bind, Tr_pure]
theorem Tr_consM {a : M D} {r : M (List D)} {P : List D → Env → Prop} : Tr (consM a r ρ) P = Tr (a ρ) fun x ρ1 => Tr (r ρ1) fun xs ρ2 => P (x :: xs) ρ2 := by
  unfold consM
  simp only [Tr_bind, Tr_pure]
theorem Tr_szM {n : Nat} {m : M α} : Tr (szM n m ρ) P = (n ≤ sizeLine ∧ Tr (m ρ) P) := by
  unfold szM
  split
  · rename_i h; simp [h]
  · rename_i h; simp [h, Tr_noM]
theorem Tr_tupM {m : M (List D)} {P : D → Env → Prop} : Tr (tupM m ρ) P = Tr (m ρ) fun xs ρ1 => xs.length ≤ sizeLine ∧ P (.tup xs) ρ1 := by
  unfold tupM
  simp only [Tr_bind, Tr_szM, Tr_pure]
theorem Tr_lstM {m : M (List D)} {P : Dv → Env → Prop} : Tr (lstM m ρ) P = Tr (m ρ) fun xs ρ1 => xs.length ≤ sizeLine ∧ P (.o false xs) ρ1 := by
  unfold lstM
  simp only [Tr_bind, Tr_szM, Tr_pure]
theorem Tr_frzM {m : M Dv} {P : D → Env → Prop} : Tr (frzM m ρ) P = Tr (m ρ) fun w ρ1 => Tr (optM (frzF w) ρ1) P := by
  unfold frzM
  simp only [Tr_bind]
theorem Tr_ownC {m : M Dv} {P : Dv → Env → Prop} : Tr (ownC m ρ) P = Tr (m ρ) fun w ρ1 => Tr (optM (ownF w) ρ1) P := by
  unfold ownC
  simp only [Tr_bind]
theorem Tr_retM {m : M D} {P : Fw → Env → Prop} : Tr (retM m ρ) P = Tr (m ρ) fun d ρ1 => P (.ret (.p d)) ρ1 := by
  unfold retM
  simp only [Tr_bind, Tr_pure]
theorem Tr_retO {m : M Dv} {P : Fw → Env → Prop} : Tr (retO m ρ) P = Tr (m ρ) fun d ρ1 => P (.ret d) ρ1 := by
  unfold retO
  simp only [Tr_bind, Tr_pure]
theorem Tr_retV {i : Nat} {P : Fw → Env → Prop} : Tr (retV i ρ) P = Tr (retV i ρ) P := rfl
theorem Tr_exprM {m : M α} {P : Fw → Env → Prop} : Tr (exprM m ρ) P = Tr (m ρ) fun _ ρ1 => P .nx ρ1 := by
  unfold exprM
  simp only [Tr_bind, Tr_pure]
theorem Tr_callB {f : List D → Option D} {m : M (List D)} {P : D → Env → Prop} : Tr (callB f m ρ) P = Tr (m ρ) fun ds ρ1 => Tr (optM (f ds) ρ1) P := by
  unfold callB
  simp only [Tr_bind]
theorem Tr_seqM {m : M D} {P : SK × List D → Env → Prop} : Tr (seqM m ρ) P = Tr (m ρ) fun d ρ1 => Tr (optM (seqF d) ρ1) P := by
  unfold seqM
  simp only [Tr_bind]
theorem Tr_qM {f : SK → List D → Option D} {m : M (SK × List D)} {P : D → Env → Prop} : Tr (qM f m ρ) P = Tr (m ρ) fun q ρ1 => Tr (optM (f q.1 q.2) ρ1) P := by
  unfold qM
  simp only [Tr_bind]
theorem Tr_qN {f : SK → List D → Option (List D)} {m : M (SK × List D)} {P : Dv → Env → Prop} : Tr (qN f m ρ) P = Tr (m ρ) fun q ρ1 => Tr (optM ((f q.1 q.2).map fun z => Dv.o false z) ρ1) P := by
  unfold qN
  simp only [Tr_bind]
theorem Tr_itM {f : D → Option (List D)} {m : M D} {P : List D → Env → Prop} : Tr (itM f m ρ) P = Tr (m ρ) fun d ρ1 => Tr (optM (f d) ρ1) P := by
  unfold itM
  simp only [Tr_bind]
theorem Tr_isiM {ts : List Ty} {m : M D} {P : D → Env → Prop} : Tr (isiM ts m ρ) P = Tr (m ρ) fun d ρ1 => Tr (optM (isiF ts d) ρ1) P := by
  unfold isiM
  simp only [Tr_bind]
theorem Tr_negM {m : M D} {P : D → Env → Prop} : Tr (negM m ρ) P = Tr (m ρ) fun d ρ1 => Tr (optM (negF d) ρ1) P := by
  unfold negM
  simp only [Tr_bind]
theorem Tr_bitsM {m : M D} {P : D → Env → Prop} : Tr (bitsM m ρ) P = Tr (m ρ) fun d ρ1 => Tr (optM (bitsF d) ρ1) P := by
  unfold bitsM
  simp only [Tr_bind]
theorem Tr_partM {m : M D} {P : Option Int → Env → Prop} : Tr (partM m ρ) P = Tr (m ρ) fun d ρ1 => Tr (optM ((partF d).map some) ρ1) P := by
  unfold partM
  simp only [Tr_bind]
theorem Tr_slM {f : D → Option Int → Option Int → Option D} {m : M D} {ml mh : M (Option Int)} {P : D → Env → Prop} : Tr (slM f m ml mh ρ) P = Tr (m ρ) fun d ρ1 => Tr (ml ρ1) fun l ρ2 => Tr (mh ρ2) fun h ρ3 => Tr (optM (f d l h) ρ3) P := by
  unfold slM
  simp only [Tr_bind]
theorem Tr_chainM {f g : D → D → Option D} {a b c : M D} {P : D → Env → Prop} : Tr (chainM f g a b c ρ) P = Tr (a ρ) fun x ρ1 => Tr (b ρ1) fun y ρ2 => Tr (optM (f x y) ρ2) fun z ρ3 => match z with
    | .bl true => Tr (c ρ3) fun u ρ4 => Tr (optM (g y u) ρ4) P
    | .bl false => P (.bl false) ρ3
    | _ => False := by
  unfold chainM
  simp only [Tr_bind]
  congr 1; funext x ρ1; congr 1; funext y ρ2; congr 1; funext z ρ3
  cases z with
  | bl b => cases b <;> simp only [Tr_bind, Tr_pure]
  | _ => rfl
theorem Tr_parM {i j : Nat} {m : M (List D)} {P : Fw → Env → Prop} : Tr (parM i j m ρ) P = Tr (m ρ) fun ds ρ1 => match ds with
    | [d, e] => okSlot ρ1 i = true ∧ okSlot (ρ1.set i (some (.p d))) j = true ∧ P .nx ((ρ1.set i (some (.p d))).set j (some (.p e)))
    | _ => False := by
  unfold parM
  simp only [Tr_bind]
  congr 1; funext ds ρ1
  match ds with
  | [] => rfl
  | [_] => rfl
  | [d, e] => simp only [Tr_seqS, Tr_putS]
  | _ :: _ :: _ :: _ => rfl
theorem Tr_consR {a : M Arg} {r : M (List Arg)} {P : List Arg → Env → Prop} : Tr (consR a r ρ) P = Tr (a ρ) fun x ρ1 => Tr (r ρ1) fun xs ρ2 => P (x :: xs) ρ2 := by
  unfold consR
  simp only [Tr_bind, Tr_pure]
theorem Tr_consN {a : M Arg} {r : M (List Arg × Dv)} {P : List Arg × Dv → Env → Prop} : Tr (consN a r ρ) P = Tr (a ρ) fun x ρ1 => Tr (r ρ1) fun p ρ2 => P (x :: p.1, p.2) ρ2 := by
  unfold consN
  simp only [Tr_bind, Tr_pure]
theorem Tr_newM {m : M Dv} {r : M (List Arg)} {P : List Arg × Dv → Env → Prop} : Tr (newM m r ρ) P = Tr (m ρ) fun w ρ1 => Tr (r ρ1) fun as ρ2 => P (.r ρ2.length :: as, w) ρ2 := by
  unfold newM
  simp only [Tr_bind]
  rfl
theorem Tr_argV {m : M D} {P : Arg → Env → Prop} : Tr (argV m ρ) P = Tr (m ρ) fun d ρ1 => P (.v d) ρ1 := by
  unfold argV
  simp only [Tr_bind, Tr_pure]
theorem Tr_argR {j : Nat} {P : Arg → Env → Prop} : Tr (argR j ρ) P = match ρ[j]? with
    | some (some w) => if w.isP = true then False else P (.r j) ρ
    | _ => False := by
  unfold argR
  cases ρ[j]? with
  | none => rfl
  | some y => cases y with
    | none => rfl
    | some w => cases hw : w.isP <;> simp [hw, Tr]
theorem Tr_argB {j : Nat} {P : Arg → Env → Prop} : Tr (argB j ρ) P = match ρ[j]? with
    | some (some w) => if w.isP = true then False else P (.b j) ρ
    | _ => False := by
  unfold argB
  cases ρ[j]? with
  | none => rfl
  | some y => cases y with
    | none => rfl
    | some w => cases hw : w.isP <;> simp [hw, Tr]
theorem Tr_callC {f : List Dv → R} {as : List Arg} {P : Dv → Env → Prop} : Tr (callC f as ρ) P = match argsOf ρ as with
    | none => False
    | some ws => nodupB (jsOf as) = true ∧ RS (f ws) fun w ws' => (bsOf as = [] ∨ (noLw w = true ∧ ((refsOf as ws').all fun p => noLw p.2) = true)) ∧ P w (updP (refsOf as ws') ρ) := by
  unfold callC
  cases argsOf ρ as with
  | none => rfl
  | some ws =>
    simp only
    by_cases h : nodupB (jsOf as) = true
    · rw [if_pos h]
      cases f ws with
      | no => simp [Tr_no, RS]
      | ex c => simp only [RS, and_false]; split <;> rfl
      | ok w ws' =>
        simp only [RS]
        by_cases h2 : bsOf as = [] ∨ (noLw w = true ∧ ((refsOf as ws').all fun p => noLw p.2) = true)
        · rw [if_pos h2, Tr_ok]
          exact propext ⟨fun z => ⟨h, h2, z⟩, fun z => z.2.2⟩
        · rw [if_neg h2, Tr_no]
          exact propext ⟨fun z => z.elim, fun z => h2 z.2.1⟩
    · rw [if_neg h]; simp [h, Tr_no]
theorem Tr_callM {f : List Dv → R} {m : M (List Arg)} {P : Dv → Env → Prop} : Tr (callM f m ρ) P = Tr (m ρ) fun as ρ1 => Tr (callC f as ρ1) P := by
  unfold callM
  simp only [Tr_bind]
theorem Tr_callN {f : List Dv → R} {m : M (List Arg × Dv)} {P : Dv → Env → Prop} : Tr (callN f m ρ) P = Tr (m ρ) fun p ρ1 => Tr (callC f p.1 (ρ1 ++ [some p.2])) fun w ρ2 => ρ2.length = ρ1.length + 1 ∧ P w (ρ2.take ρ1.length) := by
  unfold callN
  simp only [Tr_bind]
  congr 1; funext p ρ1
  cases callC f p.1 (ρ1 ++ [some p.2]) with
  | no => rfl
  | ex _ _ => rfl
  | ok w ρ2 =>
    simp only
    by_cases h : ρ2.length = ρ1.length + 1
    · rw [if_pos h]
      exact propext ⟨fun z => ⟨h, z⟩, fun z => z.2⟩
    · rw [if_neg h]
      exact propext ⟨fun z => z.elim, fun z => h z.1⟩
theorem Tr_forM {mi : M (List D)} {f : D → Env → Option Env} {b : M Fw} {P : Fw → Env → Prop} : Tr (forM mi f b ρ) P = Tr (mi ρ) fun ds ρ1 => Tr (forL ds f b ρ1) P := by
  unfold forM
  simp only [Tr_bind]
theorem Tr_asgM {m : M D} {f : D → Env → Option Env} {P : Fw → Env → Prop} : Tr (asgM m f ρ) P = Tr (m ρ) fun d ρ1 => ∃ ρ2, f d ρ1 = some ρ2 ∧ P .nx ρ2 := by
  unfold asgM
  simp only [Tr_bind]
  congr 1; funext d ρ1
  cases f d ρ1 with
  | none => simp [Tr_no]
  | some ρ2 => simp [Tr_ok]
theorem Tr_lcM {vs : List Nat} {mi : M (List D)} {f : D → Env → Option Env} {mt : M Bool} {me : M D} {P : Dv → Env → Prop} : Tr (lcM vs mi f mt me ρ) P = Tr (mi ρ) fun ds ρ1 => noIo ρ1 vs = true ∧ Tr (lcL vs f mt me ds [] (wipeE ρ1 vs)) fun acc ρ2 => P (.o false acc) (restE vs 0 ρ1 ρ2) := by
  unfold lcM
  simp only [Tr_bind]
  congr 1; funext ds ρ1
  split
  · rename_i h
    cases lcL vs f mt me ds [] (wipeE ρ1 vs) <;> simp [h, Tr]
  · rename_i h; simp [h, Tr_no]
end
theorem RS_fnM {np nN : Nat} {b : M Fw} {ws : List Dv} {P : Dv → List Dv → Prop} : RS (fnM np nN b ws) P = (ws.length = np ∧ Tr (b (startE nN ws)) fun fl ρ => match fl with
    | .ret w => P w (outs ws ρ)
    | .nx => P (.p .non) (outs ws ρ)
    | _ => False) := by
  unfold fnM
  split
  · rename_i h
    simp only [h, true_and]
    cases b (startE nN ws) with
    | no => rfl
    | ex _ _ => rfl
    | ok fl ρ => cases fl <;> rfl
  · rename_i h; simp [h, RS]
section
variable {ρ : Env}
theorem Tr_ixOM {j : Nat} {m : M D} {P : D → Env → Prop} : Tr (ixOM j m ρ) P = (isO ρ j = true ∧ Tr (m ρ) fun e ρ1 => match ρ1[j]? with
    | some (some (.o _ ds)) => Tr (optM (ixF (.lst ds) e) ρ1) P
    | _ => False) := by
  unfold ixOM
  by_cases h : isO ρ j = true
  · rw [if_pos h, Tr_bind]
    simp only [h, true_and]
    congr 1; funext e ρ1
    cases ρ1[j]? with
    | none => rfl
    | some y => cases y with
      | none => rfl
      | some w => cases w with
        | o b ds => simp only; cases ixF (.lst ds) e <;> rfl
        | _ => rfl
  · rw [if_neg h]
    exact propext ⟨fun z => z.elim, fun z => h z.1⟩
theorem Tr_ownM {i : Nat} {P : SK × List D → Env → Prop} : Tr (ownM i ρ) P = match ρ[i]? with
    | some (some (.o _ ds)) => P (.l, ds) ρ
    | _ => False := by
  unfold ownM
  cases ρ[i]? with
  | none => rfl
  | some y => cases y with
    | none => rfl
    | some w => cases w <;> rfl
theorem Tr_setIxM {j : Nat} {m mi : M D} {P : Fw → Env → Prop} : Tr (setIxM j m mi ρ) P = Tr (m ρ) fun d ρ1 => isO ρ1 j = true ∧ Tr (mi ρ1) fun k ρ2 => match ρ2[j]?, k with
    | some (some (.o f ds)), .int i => ∃ n, L2.ixN ds.length i = some n ∧ P .nx (ρ2.set j (some (.o f (ds.set n d))))
    | _, _ => False := by
  unfold setIxM
  rw [Tr_bind]
  congr 1; funext d ρ1
  by_cases h : isO ρ1 j = true
  · rw [if_pos h, Tr_bind]
    simp only [h, true_and]
    congr 1; funext k ρ2
    cases ρ2[j]? with
    | none => rfl
    | some y => cases y with
      | none => rfl
      | some w => cases w with
        | o b ds => cases k with
          | int i => simp only; cases L2.ixN ds.length i <;> simp [Tr]
          | _ => rfl
        | _ => rfl
  · rw [if_neg h]
    exact propext ⟨fun z => z.elim, fun z => h z.1⟩
theorem Tr_appM {j : Nat} {m : M D} {P : Fw → Env → Prop} : Tr (appM j m ρ) P = (isO ρ j = true ∧ Tr (m ρ) fun d ρ1 => match ρ1[j]? with
    | some (some (.o f ds)) => ds.length < sizeLine ∧ P .nx (ρ1.set j (some (.o f (ds ++ [d]))))
    | _ => False) := by
  unfold appM
  by_cases h : isO ρ j = true
  · rw [if_pos h, Tr_bind]
    simp only [h, true_and]
    congr 1; funext d ρ1
    cases ρ1[j]? with
    | none => rfl
    | some y => cases y with
      | none => rfl
      | some w => cases w with
        | o b ds =>
          simp only
          by_cases h2 : ds.length < sizeLine
          · rw [if_pos h2]; exact propext ⟨fun z => ⟨h2, z⟩, fun z => z.2⟩
          · rw [if_neg h2]; exact propext ⟨fun z => z.elim, fun z => h2 z.1⟩
        | _ => rfl
  · rw [if_neg h]
    exact propext ⟨fun z => z.elim, fun z => h z.1⟩
theorem Tr_forL_nil {f : D → Env → Option Env} {b : M Fw} {P : Fw → Env → Prop} : Tr (forL [] f b ρ) P = P .nx ρ := rfl
theorem Tr_forL_cons {d : D} {r : List D} {f : D → Env → Option Env} {b : M Fw} {P : Fw → Env → Prop} : Tr (forL (d :: r) f b ρ) P = ∃ ρ1, f d ρ = some ρ1 ∧ Tr (b ρ1) fun fl ρ2 => match fl with
    | .nx => Tr (forL r f b ρ2) P
    | .ct => Tr (forL r f b ρ2) P
    | .bk => P .nx ρ2
    | .ret w => P (.ret w) ρ2 := by
  show Tr (match f d ρ with
    | none => .no
    | some ρ1 => match b ρ1 with
      | .ok .nx ρ2 => forL r f b ρ2
      | .ok .ct ρ2 => forL r f b ρ2
      | .ok .bk ρ2 => .ok .nx ρ2
      | .ok (.ret w) ρ2 => .ok (.ret w) ρ2
      | .ex c ρ2 => .ex c ρ2
      | .no => .no) P = _
  cases f d ρ with
  | none => simp [Tr]
  | some ρ1 =>
    simp only [Option.some.injEq, exists_eq_left']
    cases b ρ1 with
    | no => rfl
    | ex _ _ => rfl
    | ok fl ρ2 => cases fl <;> rfl
theorem forL_inv {f : D → Env → Option Env} {b : M Fw} {P : Fw → Env → Prop} (I : Nat → Env → Prop) : ∀ (ds : List D) (k : Nat) (ρ : Env), I k ρ →
    (∀ i d ρ, ds[i]? = some d → I (k + i) ρ → ∃ ρ1, f d ρ = some ρ1 ∧ Tr (b ρ1) fun fl ρ2 => match fl with
      | .nx => I (k + i + 1) ρ2
      | .ct => I (k + i + 1) ρ2
      | .bk => P .nx ρ2
      | .ret w => P (.ret w) ρ2) → (∀ ρ, I (k + ds.length) ρ → P .nx ρ) → Tr (forL ds f b ρ) P
  | [], k, ρ, h, _, e => e ρ h
  | d :: r, k, ρ, h, st, e => by
    rw [Tr_forL_cons]
    obtain ⟨ρ1, h1, h2⟩ := st 0 d ρ rfl h
    have go : ∀ ρ2, I (k + 1) ρ2 → Tr (forL r f b ρ2) P := fun ρ2 h3 => forL_inv I r (k + 1) ρ2 h3 (fun i d ρ a b => by
      have z := st (i + 1) d ρ (by simpa using a) (by rw [show k + (i + 1) = k + 1 + i by omega]; exact b)
      rw [show k + (i + 1) = k + 1 + i by omega] at z
      exact z) (fun ρ a => e ρ (by rw [List.length_cons, show k + (r.length + 1) = k + 1 + r.length by omega]; exact a))
    refine ⟨ρ1, h1, h2.mono fun fl ρ2 z => ?_⟩
    cases fl with
    | nx => exact go ρ2 z
    | ct => exact go ρ2 z
    | bk => exact z
    | ret w => exact z
theorem lcL_inv {vs : List Nat} {f : D → Env → Option Env} {mt : M Bool} {me : M D} {P : List D → Env → Prop} (I : Nat → List D → Env → Prop) : ∀ (ds : List D) (k : Nat) (acc : List D) (ρ : Env), I k acc ρ →
    (∀ i d acc ρ, ds[i]? = some d → I (k + i) acc ρ → ∃ ρ1, f d ρ = some ρ1 ∧ Tr (mt ρ1) fun x ρ2 => if x = true then Tr (me ρ2) fun y ρ3 => acc.length < sizeLine ∧ noIo ρ3 vs = true ∧ I (k + i + 1) (acc ++ [y]) (wipeE ρ3 vs)
      else noIo ρ2 vs = true ∧ I (k + i + 1) acc (wipeE ρ2 vs)) → (∀ acc ρ, I (k + ds.length) acc ρ → P acc ρ) → Tr (lcL vs f mt me ds acc ρ) P
  | [], k, acc, ρ, h, _, e => e acc ρ h
  | d :: r, k, acc, ρ, h, st, e => by
    obtain ⟨ρ1, h1, h2⟩ := st 0 d acc ρ rfl h
    have go : ∀ acc ρ2, I (k + 1) acc ρ2 → Tr (lcL vs f mt me r acc ρ2) P := fun acc ρ2 h3 => lcL_inv I r (k + 1) acc ρ2 h3 (fun i d acc ρ a b => by
      have z := st (i + 1) d acc ρ (by simpa using a) (by rw [show k + (i + 1) = k + 1 + i by omega]; exact b)
      rw [show k + (i + 1) = k + 1 + i by omega] at z
      exact z) (fun acc ρ a => e acc ρ (by rw [List.length_cons, show k + (r.length + 1) = k + 1 + r.length by omega]; exact a))
    unfold lcL
    rw [h1]
    simp only
    cases hm : mt ρ1 with
    | no => rw [hm] at h2; exact h2.elim
    | ex _ _ => rw [hm] at h2; exact h2.elim
    | ok x ρ2 =>
      rw [hm, Tr_ok] at h2
      cases x with
      | false =>
        rw [if_neg Bool.false_ne_true] at h2
        simp only [h2.1, if_true]
        exact go acc _ h2.2
      | true =>
        rw [if_pos rfl] at h2
        simp only
        cases hy : me ρ2 with
        | no => rw [hy] at h2; exact h2.elim
        | ex _ _ => rw [hy] at h2; exact h2.elim
        | ok y ρ3 =>
          rw [hy, Tr_ok] at h2
          simp only [h2.1, h2.2.1, and_self, if_true]
          exact go _ _ h2.2.2
end
end Fl
end

section
set_option Elab.async false
set_option linter.all false
set_option maxRecDepth 100000
set_option autoImplicit false
/-! Fl, part X: the backward steps as rules. -/
namespace Fl
open PySem
section
variable {α β : Type} {ρ : Env} {P : α → Env → Prop}
theorem tr_bind {m : M α} {f : α → M β} {P : β → Env → Prop} (h : Tr (m ρ) fun a ρ1 => Tr (f a ρ1) P) : Tr (bindM m f ρ) P := Tr_bind.mpr h
theorem tr_pure {a : α} (h : P a ρ) : Tr (pureM a ρ) P := h
theorem tr_opt {x : Option α} {a : α} (e : x = some a) (h : P a ρ) : Tr (optM x ρ) P := by subst e; exact h
theorem tr_if {c : Prop} [Decidable c] {a : α} (hc : c) (h : P a ρ) : Tr (optM (if c then some a else none) ρ) P := Tr_if.mpr ⟨hc, h⟩
theorem tr_seqS {a b : M Fw} {P : Fw → Env → Prop} (h : Tr (a ρ) fun fl ρ1 => match fl with
    | .nx => Tr (b ρ1) P
    | fl => P fl ρ1) : Tr (seqS a b ρ) P := Tr_seqS.mpr h
theorem tr_ite {x : Bool} {A B : Prop} (h1 : x = true → A) (h2 : x = false → B) : if x = true then A else B := by
  cases x with
  | true => rw [if_pos rfl]; exact h1 rfl
  | false => rw [if_neg Bool.false_ne_true]; exact h2 rfl
/-- with what stands between told -/
theorem tr_seqI {a b : M Fw} {P : Fw → Env → Prop} (I : Env → Prop) (h1 : Tr (a ρ) fun fl ρ1 => match fl with
    | .nx => I ρ1
    | fl => P fl ρ1) (h2 : ∀ ρ1, I ρ1 → Tr (b ρ1) P) : Tr (seqS a b ρ) P := tr_seqS (h1.mono fun fl ρ1 q => by
  cases fl with
  | nx => exact h2 _ q
  | _ => exact q)
theorem tr_ifM {c : M Bool} {a b : M α} (h : Tr (c ρ) fun x ρ1 => if x = true then Tr (a ρ1) P else Tr (b ρ1) P) : Tr (ifM c a b ρ) P := Tr_ifM.mpr h
theorem tr_var {i : Nat} {d : D} {P : D → Env → Prop} (e : ρ[i]? = some (some (.p d))) (h : P d ρ) : Tr (varM i ρ) P := by rw [Tr_var, e]; exact h
theorem tr_setM {i : Nat} {m : M D} {P : Fw → Env → Prop} (h : Tr (m ρ) fun d ρ1 => okSlot ρ1 i = true ∧ P .nx (ρ1.set i (some (.p d)))) : Tr (setM i m ρ) P := Tr_setM.mpr h
theorem tr_setO {i : Nat} {m : M Dv} {P : Fw → Env → Prop} (h : Tr (m ρ) fun w ρ1 => okSlot ρ1 i = true ∧ P .nx (ρ1.set i (some w))) : Tr (setO i m ρ) P := Tr_setO.mpr h
theorem tr_op2 {f : D → D → Option D} {a b : M D} {P : D → Env → Prop} (h : Tr (a ρ) fun x ρ1 => Tr (b ρ1) fun y ρ2 => Tr (optM (f x y) ρ2) P) : Tr (op2M f a b ρ) P := Tr_op2.mpr h
theorem tr_boolM {m : M D} {P : Bool → Env → Prop} (h : Tr (m ρ) fun d ρ1 => Tr (optM (toB d) ρ1) P) : Tr (boolM m ρ) P := Tr_boolM.mpr h
theorem tr_notM {m : M Bool} {P : Bool → Env → Prop} (h : Tr (m ρ) fun d ρ1 => P (!d) ρ1) : Tr (notM m ρ) P := Tr_notM.mpr h
theorem tr_andM {a b : M Bool} {P : Bool → Env → Prop} (h : Tr (a ρ) fun x ρ1 => if x = true then Tr (b ρ1) P else P false ρ1) : Tr (andM a b ρ) P := Tr_andM.mpr h
theorem tr_orM {a b : M Bool} {P : Bool → Env → Prop} (h : Tr (a ρ) fun x ρ1 => if x = true then P true ρ1 else Tr (b ρ1) P) : Tr (orM a b ρ) P := Tr_orM.mpr h
theorem tr_landM {a b : M D} {P : D → Env → Prop} (h : Tr (boolM a ρ) fun x ρ1 => if x = true then Tr (b ρ1) P else P (.bl false) ρ1) : Tr (landM a b ρ) P := Tr_landM.mpr h
theorem tr_lorM {a b : M D} {P : D → Env → Prop} (h : Tr (boolM a ρ) fun x ρ1 => if x = true then P (.bl true) ρ1 else Tr (b ρ1) P) : Tr (lorM a b ρ) P := Tr_lorM.mpr h
theorem tr_bM {m : M Bool} {P : D → Env → Prop} (h : Tr (m ρ) fun b ρ1 => P (.bl b) ρ1) : Tr (bM m ρ) P := Tr_bM.mpr h
theorem tr_consM {a : M D} {r : M (List D)} {P : List D → Env → Prop} (h : Tr (a ρ) fun x ρ1 => Tr (r ρ1) fun xs ρ2 => P (x :: xs) ρ2) : Tr (consM a r ρ) P := Tr_consM.mpr h
theorem tr_tupM {m : M (List D)} {P : D → Env → Prop} (h : Tr (m ρ) fun xs ρ1 => xs.length ≤ sizeLine ∧ P (.tup xs) ρ1) : Tr (tupM m ρ) P := Tr_tupM.mpr h
theorem tr_lstM {m : M (List D)} {P : Dv → Env → Prop} (h : Tr (m ρ) fun xs ρ1 => xs.length ≤ sizeLine ∧ P (.o false xs) ρ1) : Tr (lstM m ρ) P := Tr_lstM.mpr h
theorem tr_frzM {m : M Dv} {P : D → Env → Prop} (h : Tr (m ρ) fun w ρ1 => Tr (optM (frzF w) ρ1) P) : Tr (frzM m ρ) P := Tr_frzM.mpr h
theorem tr_ownC {m : M Dv} {P : Dv → Env → Prop} (h : Tr (m ρ) fun w ρ1 => Tr (optM (ownF w) ρ1) P) : Tr (ownC m ρ) P := Tr_ownC.mpr h
theorem tr_retM {m : M D} {P : Fw → Env → Prop} (h : Tr (m ρ) fun d ρ1 => P (.ret (.p d)) ρ1) : Tr (retM m ρ) P := Tr_retM.mpr h
theorem tr_retO {m : M Dv} {P : Fw → Env → Prop} (h : Tr (m ρ) fun d ρ1 => P (.ret d) ρ1) : Tr (retO m ρ) P := Tr_retO.mpr h
theorem tr_retV {i : Nat} {ds : List D} {P : Fw → Env → Prop} (e : ρ[i]? = some (some (.o false ds))) (h : P (.ret (.o false ds)) ρ) : Tr (retV i ρ) P := by unfold retV; rw [e]; exact h
theorem tr_exprM {m : M α} {P : Fw → Env → Prop} (h : Tr (m ρ) fun _ ρ1 => P .nx ρ1) : Tr (exprM m ρ) P := Tr_exprM.mpr h
theorem tr_callB {f : List D → Option D} {m : M (List D)} {P : D → Env → Prop} (h : Tr (m ρ) fun ds ρ1 => Tr (optM (f ds) ρ1) P) : Tr (callB f m ρ) P := Tr_callB.mpr h
theorem tr_seqM {m : M D} {P : SK × List D → Env → Prop} (h : Tr (m ρ) fun d ρ1 => Tr (optM (seqF d) ρ1) P) : Tr (seqM m ρ) P := Tr_seqM.mpr h
theorem tr_qM {f : SK → List D → Option D} {m : M (SK × List D)} {P : D → Env → Prop} (h : Tr (m ρ) fun q ρ1 => Tr (optM (f q.1 q.2) ρ1) P) : Tr (qM f m ρ) P := Tr_qM.mpr h
theorem tr_qN {f : SK → List D → Option (List D)} {m : M (SK × List D)} {P : Dv → Env → Prop} (h : Tr (m ρ) fun q ρ1 => Tr (optM ((f q.1 q.2).map fun z => Dv.o false z) ρ1) P) : Tr (qN f m ρ) P := Tr_qN.mpr h
theorem tr_itM {f : D → Option (List D)} {m : M D} {P : List D → Env → Prop} (h : Tr (m ρ) fun d ρ1 => Tr (optM (f d) ρ1) P) : Tr (itM f m ρ) P := Tr_itM.mpr h
theorem tr_isiM {ts : List Ty} {m : M D} {P : D → Env → Prop} (h : Tr (m ρ) fun d ρ1 => Tr (optM (isiF ts d) ρ1) P) : Tr (isiM ts m ρ) P := Tr_isiM.mpr h
theorem tr_negM {m : M D} {P : D → Env → Prop} (h : Tr (m ρ) fun d ρ1 => Tr (optM (negF d) ρ1) P) : Tr (negM m ρ) P := Tr_negM.mpr h
theorem tr_bitsM {m : M D} {P : D → Env → Prop} (h : Tr (m ρ) fun d ρ1 => Tr (optM (bitsF d) ρ1) P) : Tr (bitsM m ρ) P := Tr_bitsM.mpr h
theorem tr_partM {m : M D} {P : Option Int → Env → Prop} (h : Tr (m ρ) fun d ρ1 => Tr (optM ((partF d).map some) ρ1) P) : Tr (partM m ρ) P := Tr_partM.mpr h
theorem tr_slM {f : D → Option Int → Option Int → Option D} {m : M D} {ml mh : M (Option Int)} {P : D → Env → Prop} (h : Tr (m ρ) fun d ρ1 => Tr (ml ρ1) fun l ρ2 => Tr (mh ρ2) fun h ρ3 => Tr (optM (f d l h) ρ3) P) : Tr (slM f m ml mh ρ) P := Tr_slM.mpr h
theorem tr_chainM {f g : D → D → Option D} {a b c : M D} {P : D → Env → Prop} (h : Tr (a ρ) fun x ρ1 => Tr (b ρ1) fun y ρ2 => Tr (optM (f x y) ρ2) fun z ρ3 => match z with
    | .bl true => Tr (c ρ3) fun u ρ4 => Tr (optM (g y u) ρ4) P
    | .bl false => P (.bl false) ρ3
    | _ => False) : Tr (chainM f g a b c ρ) P := Tr_chainM.mpr h
theorem tr_parM {i j : Nat} {m : M (List D)} {P : Fw → Env → Prop} (h : Tr (m ρ) fun ds ρ1 => match ds with
    | [d, e] => okSlot ρ1 i = true ∧ okSlot (ρ1.set i (some (.p d))) j = true ∧ P .nx ((ρ1.set i (some (.p d))).set j (some (.p e)))
    | _ => False) : Tr (parM i j m ρ) P := Tr_parM.mpr h
theorem tr_consR {a : M Arg} {r : M (List Arg)} {P : List Arg → Env → Prop} (h : Tr (a ρ) fun x ρ1 => Tr (r ρ1) fun xs ρ2 => P (x :: xs) ρ2) : Tr (consR a r ρ) P := Tr_consR.mpr h
theorem tr_consN {a : M Arg} {r : M (List Arg × Dv)} {P : List Arg × Dv → Env → Prop} (h : Tr (a ρ) fun x ρ1 => Tr (r ρ1) fun p ρ2 => P (x :: p.1, p.2) ρ2) : Tr (consN a r ρ) P := Tr_consN.mpr h
theorem tr_newM {m : M Dv} {r : M (List Arg)} {P : List Arg × Dv → Env → Prop} (h : Tr (m ρ) fun w ρ1 => Tr (r ρ1) fun as ρ2 => P (.r ρ2.length :: as, w) ρ2) : Tr (newM m r ρ) P := Tr_newM.mpr h
theorem tr_argV {m : M D} {P : Arg → Env → Prop} (h : Tr (m ρ) fun d ρ1 => P (.v d) ρ1) : Tr (argV m ρ) P := Tr_argV.mpr h
theorem tr_argR {j : Nat} {w : Dv} {P : Arg → Env → Prop} (e : ρ[j]? = some (some w)) (hp : w.isP = false) (h : P (.r j) ρ) : Tr (argR j ρ) P := by
  rw [Tr_argR, e]
  simp only [hp]
  exact h
theorem tr_argB {j : Nat} {w : Dv} {P : Arg → Env → Prop} (e : ρ[j]? = some (some w)) (hp : w.isP = false) (h : P (.b j) ρ) : Tr (argB j ρ) P := by
  rw [Tr_argB, e]
  simp only [hp]
  exact h
/-- a call without lent lists -/
theorem tr_call {f : List Dv → R} {as : List Arg} {ws : List Dv} {P : Dv → Env → Prop} (e : argsOf ρ as = some ws) (nd : nodupB (jsOf as) = true) (hb : bsOf as = []) (h : RS (f ws) fun w ws' => P w (updP (refsOf as ws') ρ)) : Tr (callC f as ρ) P := by
  rw [Tr_callC, e]
  exact ⟨nd, h.mono fun w ws' q => ⟨.inl hb, q⟩⟩
/-- .. with lent lists -/
theorem tr_callL {f : List Dv → R} {as : List Arg} {ws : List Dv} {P : Dv → Env → Prop} (e : argsOf ρ as = some ws) (nd : nodupB (jsOf as) = true) (h : RS (f ws) fun w ws' => (noLw w = true ∧ ((refsOf as ws').all fun p => noLw p.2) = true) ∧ P w (updP (refsOf as ws') ρ)) : Tr (callC f as ρ) P := by
  rw [Tr_callC, e]
  exact ⟨nd, h.mono fun w ws' q => ⟨.inr q.1, q.2⟩⟩
theorem tr_callM {f : List Dv → R} {m : M (List Arg)} {P : Dv → Env → Prop} (h : Tr (m ρ) fun as ρ1 => Tr (callC f as ρ1) P) : Tr (callM f m ρ) P := Tr_callM.mpr h
theorem tr_callN {f : List Dv → R} {m : M (List Arg × Dv)} {P : Dv → Env → Prop} (h : Tr (m ρ) fun p ρ1 => Tr (callC f p.1 (ρ1 ++ [some p.2])) fun w ρ2 => ρ2.length = ρ1.length + 1 ∧ P w (ρ2.take ρ1.length)) : Tr (callN f m ρ) P := Tr_callN.mpr h
theorem tr_forM {mi : M (List D)} {f : D → Env → Option Env} {b : M Fw} {P : Fw → Env → Prop} (h : Tr (mi ρ) fun ds ρ1 => Tr (forL ds f b ρ1) P) : Tr (forM mi f b ρ) P := Tr_forM.mpr h
theorem tr_asgM {m : M D} {f : D → Env → Option Env} {P : Fw → Env → Prop} (h : Tr (m ρ) fun d ρ1 => ∃ ρ2, f d ρ1 = some ρ2 ∧ P .nx ρ2) : Tr (asgM m f ρ) P := Tr_asgM.mpr h
theorem tr_lcM {vs : List Nat} {mi : M (List D)} {f : D → Env → Option Env} {mt : M Bool} {me : M D} {P : Dv → Env → Prop} (h : Tr (mi ρ) fun ds ρ1 => noIo ρ1 vs = true ∧ Tr (lcL vs f mt me ds [] (wipeE ρ1 vs)) fun acc ρ2 => P (.o false acc) (restE vs 0 ρ1 ρ2)) : Tr (lcM vs mi f mt me ρ) P := Tr_lcM.mpr h
theorem tr_ixOM {j : Nat} {m : M D} {P : D → Env → Prop} (hj : isO ρ j = true) (h : Tr (m ρ) fun e ρ1 => ∃ b ds, ρ1[j]? = some (some (.o b ds)) ∧ Tr (optM (ixF (.lst ds) e) ρ1) P) : Tr (ixOM j m ρ) P :=
  Tr_ixOM.mpr ⟨hj, h.mono fun e ρ1 q => by obtain ⟨b, ds, e1, q⟩ := q; rw [e1]; exact q⟩
theorem tr_ownM {i : Nat} {b : Bool} {ds : List D} {P : SK × List D → Env → Prop} (e : ρ[i]? = some (some (.o b ds))) (h : P (.l, ds) ρ) : Tr (ownM i ρ) P := by rw [Tr_ownM, e]; exact h
theorem tr_setIxM {j : Nat} {m mi : M D} {P : Fw → Env → Prop} (h : Tr (m ρ) fun d ρ1 => isO ρ1 j = true ∧ Tr (mi ρ1) fun k ρ2 => ∃ f ds i n, ρ2[j]? = some (some (.o f ds)) ∧ k = .int i ∧ L2.ixN ds.length i = some n ∧ P .nx (ρ2.set j (some (.o f (ds.set n d))))) : Tr (setIxM j m mi ρ) P :=
  Tr_setIxM.mpr (h.mono fun d ρ1 q => ⟨q.1, q.2.mono fun k ρ2 z => by obtain ⟨f, ds, i, n, e1, rfl, e2, z⟩ := z; rw [e1]; exact ⟨n, e2, z⟩⟩)
theorem tr_appM {j : Nat} {m : M D} {P : Fw → Env → Prop} (hj : isO ρ j = true) (h : Tr (m ρ) fun d ρ1 => ∃ f ds, ρ1[j]? = some (some (.o f ds)) ∧ ds.length < sizeLine ∧ P .nx (ρ1.set j (some (.o f (ds ++ [d]))))) : Tr (appM j m ρ) P :=
  Tr_appM.mpr ⟨hj, h.mono fun e ρ1 q => by obtain ⟨b, ds, e1, q⟩ := q; rw [e1]; exact q⟩
/-! ints -/
theorem tr_mul {i j : Int} {P : D → Env → Prop} (c : CM i j) (h : P (.int (i * j)) ρ) : Tr (optM (mulF (.int i) (.int j)) ρ) P := by
  show Tr (optM (if CM i j then some (.int (i * j)) else none) ρ) P
  exact tr_if c h
theorem tr_fdiv {i j : Int} {P : D → Env → Prop} (c : 0 < j ∧ j.natAbs.log2 < 9000) (h : P (.int (i / j)) ρ) : Tr (optM (fdivF (.int i) (.int j)) ρ) P := by
  show Tr (optM (if 0 < j ∧ j.natAbs.log2 < 9000 then some (.int (i / j)) else none) ρ) P
  exact tr_if c h
theorem tr_mod {i j : Int} {P : D → Env → Prop} (c : 0 < j) (h : P (.int (i % j)) ρ) : Tr (optM (modF (.int i) (.int j)) ρ) P := by
  show Tr (optM (if 0 < j then some (.int (i % j)) else none) ρ) P
  exact tr_if c h
theorem atI_get {α : Type} {xs : List α} {i : Int} (h0 : 0 ≤ i) (h1 : i < xs.length) : ∃ v, L2.atI xs i = some v ∧ v ∈ xs := by
  have h2 : i.toNat < xs.length := by omega
  refine ⟨xs[i.toNat], ?_, List.getElem_mem _⟩
  unfold L2.atI L2.ixN
  rw [if_pos h0, if_pos h1, Option.bind_some, List.getElem?_eq_getElem h2]
theorem tr_ixScr {ns : List Int} {i : Int} {P : D → Env → Prop} (h0 : 0 ≤ i) (h1 : i < ns.length) (h : ∀ v, P (.int v) ρ) : Tr (optM (ixF (.scr ns) (.int i)) ρ) P := by
  obtain ⟨v, e, _⟩ := atI_get h0 h1
  exact tr_opt (show (L2.atI ns i).map D.int = some (.int v) by rw [e]; rfl) (h v)
theorem tr_ixLst {ds : List D} {i : Int} {P : D → Env → Prop} (h0 : 0 ≤ i) (h1 : i < ds.length) (h : ∀ v, v ∈ ds → P v ρ) : Tr (optM (ixF (.lst ds) (.int i)) ρ) P := by
  obtain ⟨v, e, m⟩ := atI_get h0 h1
  exact tr_opt (show L2.atI ds i = some v from e) (h v m)
theorem tr_ixTup {ds : List D} {i : Int} {P : D → Env → Prop} (h0 : 0 ≤ i) (h1 : i < ds.length) (h : ∀ v, v ∈ ds → P v ρ) : Tr (optM (ixF (.tup ds) (.int i)) ρ) P := by
  obtain ⟨v, e, m⟩ := atI_get h0 h1
  exact tr_opt (show L2.atI ds i = some v from e) (h v m)
theorem tr_ixStr {s : Str} {i : Int} {P : D → Env → Prop} (hz : s.length ≤ sizeLine) (h0 : 0 ≤ i) (h1 : i < s.cps.toList.length) (h : ∀ c : Nat, c ∈ s.cps.toList → P (.str ⟨#[c]⟩) ρ) : Tr (optM (ixF (.str s) (.int i)) ρ) P := by
  obtain ⟨v, e, m⟩ := atI_get h0 h1
  refine tr_opt (a := .str ⟨#[v]⟩) ?_ (h v m)
  show (if s.length ≤ sizeLine then (L2.atI s.cps.toList i).map fun c => D.str ⟨#[c]⟩ else none) = _
  rw [if_pos hz, e]; rfl
end
/-- a def's promise from its body -/
theorem rs_fn {np nN : Nat} {b : M Fw} {ws : List Dv} {P : Dv → List Dv → Prop} (hl : ws.length = np) (h : Tr (b (startE nN ws)) fun fl ρ => match fl with
    | .ret w => P w (outs ws ρ)
    | .nx => P (.p .non) (outs ws ρ)
    | _ => False) : RS (fnM np nN b ws) P := RS_fnM.mpr ⟨hl, h⟩
end Fl
end

section
set_option Elab.async false
set_option linter.all false
set_option maxRecDepth 100000
set_option autoImplicit false
/-! Fl, part Y: plain facts of data. -/
namespace Fl
open PySem
mutual
/-- data of depth at most n, texts of proper signs -/
def dat : Nat → D → Bool
  | _, .non => true
  | _, .bl _ => true
  | _, .int _ => true
  | _, .str s => PyData.strOk s
  | n + 1, .tup xs => dats n xs
  | n + 1, .lst xs => dats n xs
  | 0, .tup _ => false
  | 0, .lst _ => false
  | _, .scr _ => false
  | _, .fn _ => false
  | _, .dct _ => false
def dats : Nat → List D → Bool
  | _, [] => true
  | n, d :: r => dat n d && dats n r
end
theorem dats_all : ∀ (n : Nat) (xs : List D), dats n xs = xs.all (dat n)
  | n, [] => by unfold dats; rfl
  | n, d :: r => by unfold dats; rw [dats_all n r, List.all_cons]
mutual
theorem dat_ok : ∀ (n : Nat) (d : D), dat n d = true → okD d = true ∧ d.py.canLay0 = true ∧ d.py.depth ≤ n
  | n, .non, _ => ⟨by simp [okD], by simp [D.py, PyData.canLay0], by simp [D.py, PyData.depth]⟩
  | n, .bl _, _ => ⟨by simp [okD], by simp [D.py, PyData.canLay0], by simp [D.py, PyData.depth]⟩
  | n, .int _, _ => ⟨by simp [okD], by simp [D.py, PyData.canLay0], by simp [D.py, PyData.depth]⟩
  | n, .str s, h => ⟨by simp [okD], by simp only [D.py, PyData.canLay0]; unfold dat at h; exact h, by simp [D.py, PyData.depth]⟩
  | n + 1, .tup xs, h => by
    unfold dat at h
    obtain ⟨h1, h2, h3⟩ := dats_ok n xs h
    exact ⟨by simp only [okD]; exact h1, by simp only [D.py, PyData.canLay0]; exact h2, by simp only [D.py, PyData.depth]; omega⟩
  | n + 1, .lst xs, h => by
    unfold dat at h
    obtain ⟨h1, h2, h3⟩ := dats_ok n xs h
    exact ⟨by simp only [okD]; exact h1, by simp only [D.py, PyData.canLay0]; exact h2, by simp only [D.py, PyData.depth]; omega⟩
  | 0, .tup _, h => by unfold dat at h; cases h
  | 0, .lst _, h => by unfold dat at h; cases h
  | n, .scr _, h => by cases n <;> (unfold dat at h; cases h)
  | n, .fn _, h => by cases n <;> (unfold dat at h; cases h)
  | n, .dct _, h => by cases n <;> (unfold dat at h; cases h)
theorem dats_ok : ∀ (n : Nat) (xs : List D), dats n xs = true → okDs xs = true ∧ PyData.canLayAll0 (pys xs) = true ∧ PyData.depthAll (pys xs) ≤ n
  | n, [], _ => ⟨by simp [okDs], by simp [pys, PyData.canLayAll0], by simp [pys, PyData.depthAll]⟩
  | n, d :: r, h => by
    unfold dats at h
    obtain ⟨h1, h2⟩ := Bool.and_eq_true_iff.mp h
    obtain ⟨a1, a2, a3⟩ := dat_ok n d h1
    obtain ⟨b1, b2, b3⟩ := dats_ok n r h2
    exact ⟨by simp [okDs, a1, b1], by simp [pys, PyData.canLayAll0, a2, b2], by simp only [pys, PyData.depthAll]; omega⟩
end
theorem dat_chk {n : Nat} {d : D} (h : dat n d = true) (hn : n ≤ 64) : chk d = true := by
  obtain ⟨h1, h2, h3⟩ := dat_ok n d h
  unfold chk SeqAt.shaped
  simp only [Bool.and_eq_true, decide_eq_true_eq]
  exact ⟨h1, h2, by omega⟩
mutual
theorem dat_mono : ∀ (n m : Nat) (d : D), dat n d = true → n ≤ m → dat m d = true
  | n, m, .non, _, _ => by unfold dat; rfl
  | n, m, .bl _, _, _ => by unfold dat; rfl
  | n, m, .int _, _, _ => by unfold dat; rfl
  | n, m, .str s, h, _ => by unfold dat at h ⊢; exact h
  | n + 1, 0, .tup xs, h, hl => by omega
  | n + 1, m + 1, .tup xs, h, hl => by unfold dat at h ⊢; exact dats_mono n m xs h (by omega)
  | n + 1, 0, .lst xs, h, hl => by omega
  | n + 1, m + 1, .lst xs, h, hl => by unfold dat at h ⊢; exact dats_mono n m xs h (by omega)
  | 0, _, .tup _, h, _ => by unfold dat at h; cases h
  | 0, _, .lst _, h, _ => by unfold dat at h; cases h
  | n, _, .scr _, h, _ => by cases n <;> (unfold dat at h; cases h)
  | n, _, .fn _, h, _ => by cases n <;> (unfold dat at h; cases h)
  | n, _, .dct _, h, _ => by cases n <;> (unfold dat at h; cases h)
theorem dats_mono : ∀ (n m : Nat) (xs : List D), dats n xs = true → n ≤ m → dats m xs = true
  | _, _, [], _, _ => by unfold dats; rfl
  | n, m, d :: r, h, hl => by
    unfold dats at h ⊢
    obtain ⟨h1, h2⟩ := Bool.and_eq_true_iff.mp h
    rw [dat_mono n m d h1 hl, dats_mono n m r h2 hl]; rfl
end
mutual
theorem eqv_self : ∀ (n : Nat) (d : D), dat n d = true → PyData.eqv d.py d.py = true
  | n, .non, _ => by simp [D.py, PyData.eqv]
  | n, .bl _, _ => by simp [D.py, PyData.eqv]
  | n, .int _, _ => by simp [D.py, PyData.eqv]
  | n, .str s, h => by simp [D.py, PyData.eqv]
  | n + 1, .tup xs, h => by unfold dat at h; simp only [D.py, PyData.eqv]; exact eqvs_self n xs h
  | n + 1, .lst xs, h => by unfold dat at h; simp only [D.py, PyData.eqv]; exact eqvs_self n xs h
  | 0, .tup _, h => by unfold dat at h; cases h
  | 0, .lst _, h => by unfold dat at h; cases h
  | n, .scr _, h => by cases n <;> (unfold dat at h; cases h)
  | n, .fn _, h => by cases n <;> (unfold dat at h; cases h)
  | n, .dct _, h => by cases n <;> (unfold dat at h; cases h)
theorem eqvs_self : ∀ (n : Nat) (xs : List D), dats n xs = true → PyData.eqvAll (pys xs) (pys xs) = true
  | _, [], _ => by simp [pys, PyData.eqvAll]
  | n, d :: r, h => by
    unfold dats at h
    obtain ⟨h1, h2⟩ := Bool.and_eq_true_iff.mp h
    simp only [pys, PyData.eqvAll, eqv_self n d h1, eqvs_self n r h2, Bool.and_self]
end
theorem eqvs_ints : ∀ (ns ms : List Int), PyData.eqvAll (pys (ns.map D.int)) (pys (ms.map D.int)) = decide (ns = ms)
  | [], [] => by simp [pys, PyData.eqvAll]
  | [], _ :: _ => by simp [pys, PyData.eqvAll]
  | _ :: _, [] => by simp [pys, PyData.eqvAll]
  | n :: ns, m :: ms => by
    simp only [List.map_cons, pys, D.py, PyData.eqvAll, PyData.eqv, eqvs_ints ns ms]
    by_cases h : n = m <;> by_cases h2 : ns = ms <;> simp [h, h2]
theorem dats_ints (n : Nat) : ∀ ns : List Int, dats n (ns.map D.int) = true
  | [] => by simp [dats]
  | m :: r => by simp [dats, dat, dats_ints n r]
theorem dats_strs (n : Nat) : ∀ ss : List Str, (∀ s ∈ ss, PyData.strOk s = true) → dats n (ss.map D.str) = true
  | [], _ => by simp [dats]
  | m :: r, h => by simp [dats, dat, h m (List.mem_cons_self ..), dats_strs n r fun s hs => h s (List.mem_cons_of_mem _ hs)]
theorem dats_append {n : Nat} {xs ys : List D} (h1 : dats n xs = true) (h2 : dats n ys = true) : dats n (xs ++ ys) = true := by
  rw [dats_all] at *
  rw [List.all_append, h1, h2]; rfl
/-! texts -/
def SOk (n : Nat) (s : Str) : Prop := s.length ≤ n ∧ PyData.strOk s = true
theorem SOk.mono {n m : Nat} {s : Str} (h : SOk n s) (hl : n ≤ m) : SOk m s := ⟨by have := h.1; omega, h.2⟩
theorem str_len_append (a b : Str) : (a ++ b).length = a.length + b.length := by
  show (a.cps ++ b.cps).size = _
  rw [Array.size_append]; rfl
theorem SOk.append {n m : Nat} {a b : Str} (ha : SOk n a) (hb : SOk m b) : SOk (n + m) (a ++ b) := by
  refine ⟨by rw [str_len_append]; have := ha.1; have := hb.1; omega, ?_⟩
  show (a.cps ++ b.cps).all _ = true
  rw [Array.all_append]
  have h1 := ha.2
  have h2 := hb.2
  unfold PyData.strOk at h1 h2
  rw [h1, h2]; rfl
theorem SOk.sign {s : Str} {n c : Nat} (h : SOk n s) (hc : c ∈ s.cps.toList) : SOk 1 ⟨#[c]⟩ := by
  refine ⟨by show 1 ≤ 1; omega, ?_⟩
  have h2 := h.2
  unfold PyData.strOk at h2 ⊢
  rw [← Array.all_toList, List.all_eq_true] at h2
  have := h2 c hc
  simpa using this
section
variable {ρ : Env} {P : D → Env → Prop}
theorem tr_addS {a b : Str} {n m : Nat} (ha : SOk n a) (hb : SOk m b) (hl : n + m ≤ 1000) (h : SOk (n + m) (a ++ b) → P (.str (a ++ b)) ρ) : Tr (optM (addF (.str a) (.str b)) ρ) P := by
  have z := ha.append hb
  refine tr_opt (a := .str (a ++ b)) ?_ (h z)
  show (if a.length + b.length ≤ sizeLine then some (D.str (a ++ b)) else none) = _
  rw [if_pos (by have := ha.1; have := hb.1; show a.length + b.length ≤ 2 ^ 24; omega)]
theorem tr_addT {xs ys : List D} (hl : xs.length + ys.length ≤ 1000000) (h : P (.tup (xs ++ ys)) ρ) : Tr (optM (addF (.tup xs) (.tup ys)) ρ) P := by
  refine tr_opt (a := .tup (xs ++ ys)) ?_ h
  show (if xs.length + ys.length ≤ sizeLine then some (D.tup (xs ++ ys)) else none) = _
  rw [if_pos (by show _ ≤ 2 ^ 24; omega)]
theorem tr_addL {xs ys : List D} (hl : xs.length + ys.length ≤ 1000000) (h : P (.lst (xs ++ ys)) ρ) : Tr (optM (addF (.lst xs) (.lst ys)) ρ) P := by
  refine tr_opt (a := .lst (xs ++ ys)) ?_ h
  show (if xs.length + ys.length ≤ sizeLine then some (D.lst (xs ++ ys)) else none) = _
  rw [if_pos (by show _ ≤ 2 ^ 24; omega)]
theorem inB_lst {s : Str} {xs : List D} (hs : PyData.strOk s = true) (hx : dats 1 xs = true) : inB (.str s) (.lst xs) = some (xs.any fun z => PyData.eqv z.py (.str s)) := by
  have h1 : chk (.str s) = true := dat_chk (n := 1) (by unfold dat; exact hs) (by omega)
  have h2 : chk (.lst xs) = true := dat_chk (n := 2) (by unfold dat; exact hx) (by omega)
  show (if (chk (.str s) && chk (.lst xs)) = true then some (xs.any fun z => PyData.eqv z.py (D.str s).py) else none) = _
  rw [h1, h2]
  simp [D.py]
theorem inB_tup {s : Str} {xs : List D} (hs : PyData.strOk s = true) (hx : dats 1 xs = true) : inB (.str s) (.tup xs) = some (xs.any fun z => PyData.eqv z.py (.str s)) := by
  have h1 : chk (.str s) = true := dat_chk (n := 1) (by unfold dat; exact hs) (by omega)
  have h2 : chk (.tup xs) = true := dat_chk (n := 2) (by unfold dat; exact hx) (by omega)
  show (if (chk (.str s) && chk (.tup xs)) = true then some (xs.any fun z => PyData.eqv z.py (D.str s).py) else none) = _
  rw [h1, h2]
  simp [D.py]
theorem tr_rng {j : Int} {P : List D → Env → Prop} (h0 : -(2 ^ 40) < j) (h1 : j < 2 ^ 40) (h : P (rngF 0 j) ρ) : Tr (optM (rng1F (.int j)) ρ) P := by
  refine tr_opt (a := rngF 0 j) ?_ h
  unfold rng1F
  simp only
  rw [if_pos (by constructor <;> omega)]
end
theorem rng_get {j : Int} {i : Nat} {d : D} (h : (rngF 0 j)[i]? = some d) : d = .int i ∧ (i : Int) < j := by
  have hl := (List.getElem?_eq_some_iff.mp h).1
  rw [rngF_len] at hl
  unfold rngF at h
  rw [List.getElem?_map] at h
  obtain ⟨k, e1, e2⟩ := Option.map_eq_some_iff.mp h
  have e3 : k = i := by
    obtain ⟨q1, q2⟩ := List.getElem?_eq_some_iff.mp e1
    rw [List.getElem_range] at q2
    exact q2.symm
  subst e3 e2
  refine ⟨by simp, by omega⟩
end Fl
end

section
set_option Elab.async false
set_option linter.all false
set_option maxRecDepth 100000
set_option autoImplicit false
/-! Fl, part Z: the head's facts, read off a part of the heap without lists. -/
namespace Fl
open PySem PySem.Spec PyProof.Rows L2 He
/-! ### lists left out -/
def isLst (o : Obj) : Bool := match o.cls with
  | .type c => decide (c = "list")
  | _ => false
def frL (g : Addr → Option Obj) (as : List Addr) : PySem.W.Frag := (frG g as).filter fun q => !isLst q.2
theorem frL_at {g : Addr → Option Obj} {as : List Addr} {a : Addr} {o : Obj} (h : (frL g as).lookup a = some o) : g a = some o ∧ isLst o = false := by
  obtain ⟨h1, h2⟩ := List.mem_filter.mp (lookup_mem h)
  exact ⟨frG_mem h1, by simpa using h2⟩
def NoLst (K : PySem.W.Frag) : Prop := ∀ a o, K.lookup a = some o → isLst o = false
/-! ### an __init__ with super() -/
structure Ini where
  cls : Str
  st : Stmt
  qual : Str
abbrev InW : Type := Option (Str × Str × Arguments × FuncBody × Scope × Addr × Addr × List Str)
def inW (K : PySem.W.Frag) (d : Ini) : InW := match K.lookup (ma K (ga K d.cls) "__init__") with
  | some ⟨_, _, .func fd, _⟩ => some (fd.name, fd.qualname, fd.params, fd.body, fd.scope, fd.globals, fd.builtins, fd.closure.map (·.1))
  | _ => none
def Ini.val (d : Ini) : InW := some ("__init__", d.qual, defArgs d.st, .stmts (defBody d.st), defScope d.st, mainGlobals, builtinsNs, ["__class__"])
/-! ### the Hook -/
abbrev AlL : Type := (AlD × List InW) × Bool
def obsL (fa : List Fa) (fn : List DefD) (ini : List Ini) (ex : PySem.W.Frag → Bool) (K : PySem.W.Frag) : AlL := ((obsD fa fn K, ini.map (inW K)), ex K)
def valL (fn : List DefD) (ini : List Ini) : AlL := ((valD fn, ini.map Ini.val), true)
structure SaysL (fa : List Fa) (fn : List DefD) (ini : List Ini) (ex : PySem.W.Frag → Bool) (K : PySem.W.Frag) : Prop where
  d : SaysD fa fn K
  i : ini.map (inW K) = ini.map Ini.val
  ex : ex K = true
  nl : NoLst K
def asL (g : Addr → Option Obj) (n : Nat) : List Addr := PySem.cStatics :: asD g n
def obsLG (n : Nat) (fa : List Fa) (fn : List DefD) (ini : List Ini) (ex : PySem.W.Frag → Bool) (g : Addr → Option Obj) : AlL := obsL fa fn ini ex (frL g (asL g n))
def hookL (n : Nat) (fa : List Fa) (fn : List DefD) (ini : List Ini) (ex : PySem.W.Frag → Bool) : PySem.W.Hook where
  α := AlL
  obs := fun s => obsLG n fa fn ini ex s.heap.get?
  val := fun _ => valL fn ini
  says := fun _ h => ∃ K : PySem.W.Frag, K.In h ∧ SaysL fa fn ini ex K
  of := fun _ _ e => ⟨_, fun _ _ z => (frL_at z).1, ⟨congrArg (fun z : AlL => z.1.1) e, congrArg (fun z : AlL => z.1.2) e, congrArg (fun z : AlL => z.2) e, fun _ _ z => (frL_at z).2⟩⟩
  keeps := fun _ _ _ ⟨K, hK, c⟩ k => ⟨K, PySem.W.Frag.In.keeps hK k, c⟩
theorem obsLG_eq {n : Nat} {fa : List Fa} {fn : List DefD} {ini : List Ini} {ex : PySem.W.Frag → Bool} {g : Addr → Option Obj} {s : Shared} (h : ∀ a, g a = s.heap.get? a) : obsLG n fa fn ini ex g = (hookL n fa fn ini ex).obs s := by
  have e : g = s.heap.get? := funext h
  rw [e] <;> rfl
theorem SaysL.ini {fa : List Fa} {fn : List DefD} {ini : List Ini} {ex : PySem.W.Frag → Bool} {K : PySem.W.Frag} (c : SaysL fa fn ini ex K) (i : Nat) {d : Ini} (h : ini[i]? = some d := by rfl) : inW K d = d.val := by
  have e2 : (ini.map (inW K))[i]? = (ini.map Ini.val)[i]? := by rw [c.i]
  rw [List.getElem?_map, List.getElem?_map, h] at e2
  exact Option.some.inj e2
/-! ### Bools -/
def oexB (K : PySem.W.Frag) (C : Addr) : Bool := (match K.lookup C with
  | some ⟨.type t, _, .cls cd, sl⟩ => decide (t = "type") && ((match cd.mro with
    | .ref c :: bm => decide (c = C) && PySem.HandSPX.refsVE bm
    | _ => false) && (cd.hasDict && (!cd.hasDel && (match sl.toList with
    | [_, _, _, _, k, _] => decide (k = some (.builtin "ValueError.__new__"))
    | _ => false))))
  | _ => false) && (eqO (PySem.W.findIn K (.ref C) "__setattr__") (some (some (.builtin "object.__setattr__"))) && (decide (PySem.W.subIn K (.ref C) (.type "BaseException") = some true) && (decide (PySem.W.typeIn K (.ref C) = some (.type "type")) && PySem.W.keepIn K (.ref C))))
theorem oexB_ok {K : PySem.W.Frag} {C : Addr} (h : oexB K C = true) : OexC K C := by
  unfold oexB at h
  obtain ⟨h1, h⟩ := Bool.and_eq_true_iff.mp h
  obtain ⟨h2, h⟩ := Bool.and_eq_true_iff.mp h
  obtain ⟨h3, h⟩ := Bool.and_eq_true_iff.mp h
  obtain ⟨h4, h5⟩ := Bool.and_eq_true_iff.mp h
  refine ⟨?_, eqO_ok h2, of_decide_eq_true h3, of_decide_eq_true h4, h5⟩
  split at h1
  · rename_i t od cd sl look
    obtain ⟨g1, h1⟩ := Bool.and_eq_true_iff.mp h1
    obtain ⟨g2, h1⟩ := Bool.and_eq_true_iff.mp h1
    obtain ⟨g3, h1⟩ := Bool.and_eq_true_iff.mp h1
    obtain ⟨g4, g5⟩ := Bool.and_eq_true_iff.mp h1
    have g1 := of_decide_eq_true g1
    subst g1
    obtain ⟨nm, bs, mro, N, q, hdct, sn, sub, ab, col, hdel⟩ := cd
    dsimp only at g2 g3 g4
    subst g3
    have g4 : hdel = false := by simpa using g4
    subst g4
    split at g2
    · rename_i c bs2 hm2
      obtain ⟨a1, a2⟩ := Bool.and_eq_true_iff.mp g2
      have a1 := of_decide_eq_true a1
      subst a1
      split at g5
      · rename_i k0 k1 k2 k3 k k5 e
        have g5 := of_decide_eq_true g5
        subst g5
        have e2 : sl = #[k0, k1, k2, k3, some (.builtin "ValueError.__new__"), k5] := by
          rw [← Array.toArray_toList (xs := sl), e]
        subst e2
        exact ⟨nm, q, N, bs, _, sn, sub, ab, col, od, k0, k1, k2, k3, k5, look, a2⟩
      · cases g5
    · cases g2
  · cases h1
def excB (K : PySem.W.Frag) (D : Addr) : Bool := eqO (PySem.W.findIn K (.ref D) "__getattribute__") (some (some (.builtin "BaseException.__getattribute__"))) && (eqO (PySem.W.findIn K (.ref D) "__getattr__") (some none) && (decide (PySem.W.subIn K (.ref D) (.type "BaseException") = some true) && (PySem.W.hasDictIn K D && (eqO (PySem.W.findIn K (.ref D) "__class__") (some (some (.builtin "object.__class__"))) && (eqO (PySem.W.specialIn K (.builtin "object.__class__") "__get__") (some (some (.builtin "getset_descriptor.__get__"))) && (decide (PySem.W.takesIn K (.builtin "object.__class__") = some true) && decide (PySem.W.mroIn K D (.type "object") = some true)))))))
theorem excB_ok {K : PySem.W.Frag} {D : Addr} (h : excB K D = true) : ExcC K D := by
  unfold excB at h
  obtain ⟨h1, h⟩ := Bool.and_eq_true_iff.mp h
  obtain ⟨h2, h⟩ := Bool.and_eq_true_iff.mp h
  obtain ⟨h3, h⟩ := Bool.and_eq_true_iff.mp h
  obtain ⟨h4, h⟩ := Bool.and_eq_true_iff.mp h
  obtain ⟨h5, h⟩ := Bool.and_eq_true_iff.mp h
  obtain ⟨h6, h⟩ := Bool.and_eq_true_iff.mp h
  obtain ⟨h7, h8⟩ := Bool.and_eq_true_iff.mp h
  exact ⟨eqO_ok h1, eqO_ok h2, of_decide_eq_true h3, h4, eqO_ok h5, eqO_ok h6, of_decide_eq_true h7, of_decide_eq_true h8⟩
def supB (K : PySem.W.Frag) (file : Str) (d : Ini) : Bool := oexB K (ga K d.cls) && (eqO (PySem.W.findIn K (.ref (ga K d.cls)) "__init__") (some (some (.ref (ma K (ga K d.cls) "__init__")))) && (decide (PySem.W.typeIn K (.ref (ma K (ga K d.cls) "__init__")) = some (.type "function")) && ((match K.lookup (ma K (ga K d.cls) "__init__") with
  | some ⟨_, _, .func fd, _⟩ => decide (fd.defaults = .none) && ((match fd.code with
    | .ref cda => PySem.W.codeIn K (.ref cda) d.qual && (match K.lookup cda with
      | some ⟨_, _, .fields vs, _⟩ => (match (vs[2]? : Option Value) with
        | some (.str f _) => file == f
        | _ => false)
      | _ => false)
    | _ => false) && (match fd.closure with
    | [(_, cc)] => (match K.lookup cc with
      | some ⟨_, _, .cell (some v), _⟩ => decide (v = .ref (ga K d.cls))
      | _ => false)
    | _ => false))
  | _ => false) && ((PySem.W.clsIn K (ga K d.cls)).isSome && (decide (PySem.W.mroIn K (ga K d.cls) (.ref (ga K d.cls)) = some true) && (eqO (PySem.W.ks_superIn K (ga K d.cls) (ga K d.cls) "__init__") (some (some (.builtin "ValueError.__init__"))) && (decide (PySem.W.subIn K (.ref (ga K d.cls)) (.type "ValueError") = some true) && eqO (PySem.W.nsIn K PySem.cStatics "thirdparty.any") (some none)))))))) 
theorem supB_ok {P : Program} {K : PySem.W.Frag} {mg : Str → Option Value} {d : Ini} (h : supB K P.main.file d = true) (hi : inW K d = d.val) (hf : mg "super" = none) :
    ∃ cc cda fd, SupC P K mg (ga K d.cls) (ma K (ga K d.cls) "__init__") cc cda d.st d.qual fd := by
  unfold supB at h
  obtain ⟨h1, h⟩ := Bool.and_eq_true_iff.mp h
  obtain ⟨h2, h⟩ := Bool.and_eq_true_iff.mp h
  obtain ⟨h3, h⟩ := Bool.and_eq_true_iff.mp h
  obtain ⟨h4, h⟩ := Bool.and_eq_true_iff.mp h
  obtain ⟨h5, h⟩ := Bool.and_eq_true_iff.mp h
  obtain ⟨h6, h⟩ := Bool.and_eq_true_iff.mp h
  obtain ⟨h7, h⟩ := Bool.and_eq_true_iff.mp h
  obtain ⟨h8, h9⟩ := Bool.and_eq_true_iff.mp h
  unfold inW at hi
  split at h4
  · rename_i oc od fd osl look
    rw [look] at hi
    unfold Ini.val at hi
    dsimp only at hi
    simp only [Option.some.injEq, Prod.mk.injEq] at hi
    obtain ⟨e1, e2, e3, e4, e5, e6, e7, e8⟩ := hi
    obtain ⟨a0, a2'⟩ := Bool.and_eq_true_iff.mp h4
    obtain ⟨a2, a3⟩ := Bool.and_eq_true_iff.mp a2'
    have a1 := of_decide_eq_true a0
    clear a0 a2' h4
    obtain ⟨n1, n2, n3, n4, n5, n6, n7, n8, n9, n10, n11, n12, n13, n14, n15⟩ := fd
    dsimp only at e1 e2 e3 e4 e5 e6 e7 e8 a1 a2 a3
    subst e1 e2 e3 e4 e5 e6 e7 a1
    split at a2
    · rename_i cda
      obtain ⟨b1, b2⟩ := Bool.and_eq_true_iff.mp a2
      split at b2
      · rename_i oc2 od2 vs osl2 look2
        split at b2
        · rename_i file tf hv
          split at a3
          · rename_i y cc
            have e9 : y = "__class__" := by simpa using e8
            subst e9
            split at a3
            · rename_i oc3 od3 v osl3 look3
              have a4 := of_decide_eq_true a3
              subst a4
              exact ⟨cc, cda, _, ⟨oexB_ok h1, eqO_ok h2, of_decide_eq_true h3, ⟨oc, od, n9, n10, n11, n12, n14, osl, rfl, look, b1⟩, ⟨oc2, od2, vs, file, tf, osl2, look2, hv, b2⟩, ⟨oc3, od3, osl3, look3⟩, Option.isSome_iff_exists.mp h5, of_decide_eq_true h6, eqO_ok h7, of_decide_eq_true h8, eqO_ok h9, hf⟩⟩
            · cases a3
          · cases a3
        · cases b2
      · cases b2
    · cases a2
  · cases h4
/-! ### tables -/
theorem CatTab.nil {K : PySem.W.Frag} {f : Str → Option Value} {cv : Value} : CatTab K f [] cv := fun x b h => by cases h
theorem CatTab.cons {K : PySem.W.Frag} {f : Str → Option Value} {cv : Value} {x : Str} {b : Bool} {D : Addr} {r : List (Str × Bool)} (h1 : f x = some (.ref D)) (h2 : PySem.W.exmOne K (.ref D) cv = some b) (h : CatTab K f r cv) : CatTab K f ((x, b) :: r) cv := fun y c e => by
  unfold List.lookup at e
  split at e
  · rename_i z
    cases e
    rw [beq_iff_eq.mp z]
    exact ⟨D, h1, h2⟩
  · exact h y c e
theorem FldTab.nil {K : PySem.W.Frag} {f : Str → Option Value} {a : Str} : FldTab K f a [] := fun x h => by cases h
theorem FldTab.cons {K : PySem.W.Frag} {f : Str → Option Value} {a x : Str} {D : Addr} {r : List Str} (h1 : f x = some (.ref D)) (h2 : XfC K D) (h3 : PySem.W.findIn K (.ref D) a = some none) (h : FldTab K f a r) : FldTab K f a (x :: r) := fun y e => by
  rw [List.contains_cons, Bool.or_eq_true] at e
  rcases e with e | e
  · rw [beq_iff_eq.mp e]
    exact ⟨D, h1, h2, h3⟩
  · exact h y e
section
variable {K : PySem.W.Frag} {h : Heap} {mg : Str → Option Value}
def impB (K : PySem.W.Frag) (x : Str) (b : String) : Bool := eqO (PySem.W.nsIn K mainGlobals x) (some (some (.builtin b)))
theorem impB_ok (X : K.In h) (G : h.Ns mainGlobals mg) {x : Str} {b : String} (c : impB K x b = true) : mg x = some (.builtin b) := PySem.W.mg_of X G (eqO_ok c)
end
theorem eqS_ok {a b : Option Bool} (h : decide (a = b) = true) : a = b := of_decide_eq_true h
/-! ### the law's end -/
theorem law_sp {K : PySem.W.Frag} {mg : Mg} {m : List Dv → R} (nl : NoLst K) (hm : ∀ ns : List Int, m [.p (.scr ns)] = .ok (.p (.bl true)) [.p (.scr ns)]) (H : Hp) (a : Addr) (ns : List Int) (hO : Only H) (hS : SqL K H a (ns.map V.int)) :
    SpM mg m [.ref a] H (fun v _ => v = .bl true) fun _ _ _ => False := by
  have hf : ∃ o, H a = some (.frz o (.lst (ns.map V.int))) := by
    rcases hS with (h | ⟨o, h⟩) | ⟨o, its, n, h1, h2, _⟩
    · rcases hO a with z | ⟨o, xs, z⟩
      · rw [h] at z; cases z
      · rw [h] at z; cases z
    · exact ⟨o, h⟩
    · have z := nl a o h1
      unfold isLst at z
      rw [h2] at z
      exact absurd z (by decide)
  obtain ⟨o, hf⟩ := hf
  refine ⟨H, [.p (.scr ns)], ⟨Same.rfl, rfl, fun i v w e1 e2 => ?_, fun i j u w b _ e1 e2 p1 _ _ _ => ?_⟩, ?_⟩
  · cases i with
    | zero =>
      cases e1
      cases e2
      exact .scr hf
    | succ i => simp at e1
  · cases i with
    | zero => cases e1; cases p1
    | succ i => simp at e1
  · rw [hm ns]
    intro G' H' v _ r
    have r : Rp mg G' v (.bl true) := r
    cases r
    rfl
theorem walk_ofL {l : PySem.W.OpenLaw} {n k : Nat} {q : Program} {loose : List Str} {XP : (Str → Option Value) → Heap → Prop} {YP : World → Heap → Prop} {d : DefRec} {x : Str}
    (hn : l.most = some n) (hn2 : n ≤ sizeLine) (hdf : d.params.defaults = []) (hr : Room k callerA)
    (F : ∀ (w : World) (mg : Str → Option Value) (fa : Addr) (h : Heap), YP w h → h.Ns mainGlobals mg → mg d.name = some (.ref fa) →
      ∃ (K : PySem.W.Frag) (fd : FuncData) (sp : Sp), K.In h ∧ (∀ (s : Shared) (u : Value), BindsTo s fd ⟨[u], []⟩ [(x, u)]) ∧
        (∀ (H : Hp) (a : Addr) (ns : List Int), ns.length ≤ n → Only H → SqL K H a (ns.map V.int) → sp [.ref a] H (fun v _ => v = .bl true) fun _ _ _ => False) ∧
        ∀ base : Heap, K.In base → base.Ns mainGlobals mg → FnOk l.prog w K mg base (L2.CX l.prog w) k fa fd [x] sp) :
    PySem.W.WalkO q loose XP YP l.row.toRowW d [] (fun f vs => PySem.call f vs) := by
  refine Att.attach_call hn hdf fun w s₀ s₁ mg mb fa o pm cd doc a vs ns G Y ho hd hcd hmg hobj hints hlen hg => ?_
  obtain ⟨K, fd, sp, KX, hb, hsp, hF⟩ := F w mg fa _ Y G.T.g hmg
  refine law_call KX G.T.g G.T.b G.T.builtins G.T.nolimit hg hobj hints (Nat.le_trans hlen hn2) hr hF hb (fun H hO hS => hsp H a ns hlen hO hS) fun H e s' h => ?_
  obtain ⟨_, _, _, _, _, _, _, _, _, _, _, _, q⟩ := h
  exact q
theorem free_one {l : List (Str × NameKind)} (h : l.all (fun p => !decide (p.2 = .free) || decide (p.1 = "__class__")) = true) : ∀ x, l.lookup x = some .free → x = "__class__" := fun x hx => by
  have z := List.all_eq_true.mp h _ (PySem.mem_of_lookup hx)
  simpa using z
/-! ### an exception class whose __init__ says super().__init__(a text) -/
theorem pay_const {P : Program} {w : World} {K : PySem.W.Frag} {mg : Str → Option Value} {base : Heap} {d : Ini} {p f z : Str} {j : Nat} {p0 p1 p2 p3 p4 p5 p6 pc pos pos' : Pos} {ar : PySem.Arg}
    (hs : supB K P.main.file d = true) (hi : inW K d = d.val) (hsup : mg "super" = none) (hm : mg d.cls = some (.ref (ga K d.cls))) (S : IniSc d.st p f)
    (hbody : defBody d.st = [.Expr (.Call (.Attribute (.Call (.Name "super" p0) [] [] p1) "__init__" p2) [.Constant (.str z) j pc] [] pos) pos', .Assign [.Attribute (.Name "self" p3) f p4] (.Name p p5) p6])
    (hp : ((defArgs d.st).posonlyargs ++ (defArgs d.st).args).head? = some ar) (har : ar.arg = "self") (hfld : PySem.W.findIn K (.ref (ga K d.cls)) f = some none) (htop : (P.main.scope.names.lookup ("super" : Str)).isSome = false)
    (hd1 : (p == ("__debug__" : Str)) = false) (hd2 : (p == ("__classdict__" : Str)) = false)
    (hb : ∀ (kV doc pm : Value) (an : Option Addr) (cdv ct : Value) (cc : Addr) (us : List Value), us.length = 2 → bindArgs (PySem.W.ksFn "__init__" d.qual (defArgs d.st) (defBody d.st) (defScope d.st) .none kV doc pm an cdv ct cc) ⟨us, []⟩ = pure ((["self", p] : List Str).zip us))
    (hc : ∀ ee : PySem.Env, ∃ pl : Sem Bool, eval (.Call (.Attribute (.Call (.Name "super" p0) [] [] p1) "__init__" p2) [.Constant (.str z) j pc] [] pos) ee = (do
      let ov ← attributeBase (.Call (.Name "super" p0) [] [] p1) "__init__" ee (eval (.Call (.Name "super" p0) [] [] p1) ee)
      standAt p2.atName
      let (f, first) ← holding [ov] (getMethod ov "__init__" pl)
      callWith pos f first (backTo pos (starEach [.Constant (.str z) j pc] ee)) []) := by intro _; exact ⟨_, rfl⟩) :
    PayOk P w K mg base d.cls f anyD := by
  obtain ⟨cc, cda, fd, Z⟩ := supB_ok hs hi hsup
  have Z' := Z
  obtain ⟨oc, od, kV, doc, pm, an, ct, osl, rfl, _⟩ := Z'.fn
  refine ⟨_, _, _, p, fun _ => True, hm, Z.oex, Z.ini, Z.tfn, ini_ok (t := tC (.str z)) Z S hbody hp har hfld htop hd1 hd2 (fun X _ _ _ _ _ _ _ => pe_str) (fun _ _ _ _ => rfl) (hc := hc), ?_, fun _ _ _ _ _ _ => trivial⟩
  exact .all fun us hl => hb kV doc pm an (.ref cda) ct cc us hl
end Fl
end

section
set_option Elab.async false
set_option linter.all false
set_option maxRecDepth 100000
set_option autoImplicit false
/-! Fl, part 1: an own list lent to an expression. -/
namespace Fl
open PySem PySem.Spec PyProof.Rows L2
/-- a caught exception stays -/
def keepX : Option Dv → Option Dv
  | some .x => some .x
  | _ => none
/-- what the expression sees: the list j as a tree, the slots of keep, nothing else -/
def lendE (j : Nat) (keep : List Nat) (dl : D) : Nat → Env → Env
  | _, [] => []
  | i, x :: ρ => (if i = j then some (.p dl) else if keep.contains i = true then x.map (Dv.setIo true) else keepX x) :: lendE j keep dl (i + 1) ρ
/-- may be handed back -/
def okY (x y : Option Dv) : Prop := match y with
  | none => True
  | some (.p d) => x = some (.p d) ∨ noL d = true
  | some .x => x = some .x
  | some w => noLw w = true ∧ w.io = true
def okL (j : Nat) (keep : List Nat) (dl : D) : Nat → Env → Env → Prop
  | _, [], [] => True
  | i, x :: ρ, y :: ρ' => (if i = j then y = some (.p dl) else if keep.contains i = true then okY x y else y = keepX x) ∧ okL j keep dl (i + 1) ρ ρ'
  | _, _, _ => False
def ioO : Option Dv → Bool
  | some u => u.io
  | none => false
def restL (j : Nat) (keep : List Nat) : Nat → Env → Env → Env
  | i, x :: ρ, y :: ρ' => (if i = j then x else if keep.contains i = true then y.map (Dv.setIo (ioO x)) else x) :: restL j keep (i + 1) ρ ρ'
  | _, _, _ => []
theorem lendE_get (j : Nat) (keep : List Nat) (dl : D) : ∀ (i : Nat) (ρ : Env) (k : Nat), (lendE j keep dl i ρ)[k]? = (ρ[k]?).map fun x => if i + k = j then some (.p dl) else if keep.contains (i + k) = true then x.map (Dv.setIo true) else keepX x
  | i, [], k => by simp [lendE]
  | i, x :: ρ, 0 => by simp [lendE]
  | i, x :: ρ, k + 1 => by
    unfold lendE
    rw [List.getElem?_cons_succ, List.getElem?_cons_succ, lendE_get j keep dl (i + 1) ρ k, show i + 1 + k = i + (k + 1) by omega]
theorem lendE_len (j : Nat) (keep : List Nat) (dl : D) : ∀ (i : Nat) (ρ : Env), (lendE j keep dl i ρ).length = ρ.length
  | _, [] => rfl
  | i, x :: ρ => by unfold lendE; rw [List.length_cons, List.length_cons, lendE_len j keep dl (i + 1) ρ]
theorem okL_len {j : Nat} {keep : List Nat} {dl : D} : ∀ (i : Nat) (ρ ρ' : Env), okL j keep dl i ρ ρ' → ρ'.length = ρ.length
  | _, [], [], _ => rfl
  | _, [], _ :: _, h => h.elim
  | _, _ :: _, [], h => h.elim
  | i, x :: ρ, y :: ρ', h => by rw [List.length_cons, List.length_cons, okL_len (i + 1) ρ ρ' h.2]
theorem okL_get {j : Nat} {keep : List Nat} {dl : D} : ∀ (i : Nat) (ρ ρ' : Env), okL j keep dl i ρ ρ' → ∀ (k : Nat) (x y : Option Dv), ρ[k]? = some x → ρ'[k]? = some y →
    if i + k = j then y = some (.p dl) else if keep.contains (i + k) = true then okY x y else y = keepX x
  | _, [], _, _, k, x, y, e, _ => by simp at e
  | _, _ :: _, [], h, _, _, _, _, _ => h.elim
  | i, x :: ρ, y :: ρ', h, 0, x', y', e1, e2 => by
    simp at e1 e2
    subst e1 e2
    exact h.1
  | i, x :: ρ, y :: ρ', h, k + 1, x', y', e1, e2 => by
    have z := okL_get (i + 1) ρ ρ' h.2 k x' y' (by simpa using e1) (by simpa using e2)
    rw [show i + 1 + k = i + (k + 1) by omega] at z
    exact z
theorem restL_get {j : Nat} {keep : List Nat} : ∀ (i : Nat) (ρ ρ' : Env) (k : Nat), ρ'.length = ρ.length → (restL j keep i ρ ρ')[k]? = (ρ[k]?).bind fun x => (ρ'[k]?).map fun y => if i + k = j then x else if keep.contains (i + k) = true then y.map (Dv.setIo (ioO x)) else x
  | i, [], [], k, _ => by simp [restL]
  | i, [], _ :: _, k, h => by cases h
  | i, _ :: _, [], k, h => by cases h
  | i, x :: ρ, y :: ρ', 0, h => by simp [restL]
  | i, x :: ρ, y :: ρ', k + 1, h => by
    unfold restL
    rw [List.getElem?_cons_succ, List.getElem?_cons_succ, List.getElem?_cons_succ, restL_get (i + 1) ρ ρ' k (by simpa using h), show i + 1 + k = i + (k + 1) by omega]
theorem restL_len {j : Nat} {keep : List Nat} : ∀ (i : Nat) (ρ ρ' : Env), ρ'.length = ρ.length → (restL j keep i ρ ρ').length = ρ.length
  | i, [], [], _ => rfl
  | i, [], _ :: _, h => by cases h
  | i, _ :: _, [], h => by cases h
  | i, x :: ρ, y :: ρ', h => by unfold restL; rw [List.length_cons, List.length_cons, restL_len (i + 1) ρ ρ' (by simpa using h)]
/-- the own objects that the expression may change, by slot -/
def iosL (j : Nat) (keep : List Nat) : Nat → Env → L2.St → List (Nat × Addr)
  | i, some w :: ρ, some (.ref a) :: σ => if i ≠ j ∧ keep.contains i = true ∧ w.isP = false then (i, a) :: iosL j keep (i + 1) ρ σ else iosL j keep (i + 1) ρ σ
  | i, _ :: ρ, _ :: σ => iosL j keep (i + 1) ρ σ
  | _, _, _ => []
theorem iosL_mem {j : Nat} {keep : List Nat} : ∀ (i : Nat) (ρ : Env) (σ : L2.St) (k : Nat) (a : Addr), (k, a) ∈ iosL j keep i ρ σ ↔ ∃ w, i ≤ k ∧ ρ[k - i]? = some (some w) ∧ σ[k - i]? = some (some (.ref a)) ∧ k ≠ j ∧ keep.contains k = true ∧ w.isP = false
  | i, [], σ, k, a => by
    constructor
    · intro h; cases σ <;> cases h
    · rintro ⟨w, _, h, _⟩; simp at h
  | i, x :: ρ, [], k, a => by
    constructor
    · intro h; cases x <;> cases h
    · rintro ⟨w, _, _, h, _⟩; simp at h
  | i, x :: ρ, y :: σ, k, a => by
    have ih := iosL_mem (j := j) (keep := keep) (i + 1) ρ σ k a
    have up : (∃ w, i + 1 ≤ k ∧ ρ[k - (i + 1)]? = some (some w) ∧ σ[k - (i + 1)]? = some (some (.ref a)) ∧ k ≠ j ∧ keep.contains k = true ∧ w.isP = false) → ∃ w, i ≤ k ∧ (x :: ρ)[k - i]? = some (some w) ∧ (y :: σ)[k - i]? = some (some (.ref a)) ∧ k ≠ j ∧ keep.contains k = true ∧ w.isP = false := by
      rintro ⟨w, h1, h2, h3, h4⟩
      have e : k - i = (k - (i + 1)) + 1 := by omega
      exact ⟨w, by omega, by rw [e, List.getElem?_cons_succ]; exact h2, by rw [e, List.getElem?_cons_succ]; exact h3, h4⟩
    have down : ∀ w, i ≤ k → k ≠ i → (x :: ρ)[k - i]? = some (some w) → (y :: σ)[k - i]? = some (some (.ref a)) → k ≠ j → keep.contains k = true → w.isP = false → (k, a) ∈ iosL j keep (i + 1) ρ σ := by
      intro w h1 hne h2 h3 h4 h5 h6
      have e : k - i = (k - (i + 1)) + 1 := by omega
      rw [e, List.getElem?_cons_succ] at h2 h3
      exact ih.mpr ⟨w, by omega, h2, h3, h4, h5, h6⟩
    have skip : iosL j keep i (x :: ρ) (y :: σ) = iosL j keep (i + 1) ρ σ ∨ ∃ w b, x = some w ∧ y = some (.ref b) ∧ i ≠ j ∧ keep.contains i = true ∧ w.isP = false ∧ iosL j keep i (x :: ρ) (y :: σ) = (i, b) :: iosL j keep (i + 1) ρ σ := by
      cases x with
      | none => left; rw [iosL]; intros; simp_all
      | some w =>
        cases y with
        | none => left; rw [iosL]; intros; simp_all
        | some v =>
          cases v with
          | ref b =>
            rw [iosL]
            by_cases c : i ≠ j ∧ keep.contains i = true ∧ w.isP = false
            · right; rw [if_pos c]; exact ⟨w, b, rfl, rfl, c.1, c.2.1, c.2.2, rfl⟩
            · left; rw [if_neg c]
          | _ => left; rw [iosL]; intros; simp_all
    constructor
    · intro h
      rcases skip with e | ⟨w, b, rfl, rfl, h1, h2, h3, e⟩
      · rw [e] at h; exact up (ih.mp h)
      · rw [e] at h
        rcases List.mem_cons.mp h with z | z
        · cases z
          exact ⟨w, Nat.le_refl _, by simp, by simp, h1, h2, h3⟩
        · exact up (ih.mp z)
    · rintro ⟨w, h1, h2, h3, h4, h5, h6⟩
      by_cases hk : k = i
      · subst hk
        rw [Nat.sub_self] at h2 h3
        simp at h2 h3
        subst h2 h3
        rw [iosL, if_pos ⟨h4, h5, h6⟩]
        exact List.mem_cons_self ..
      · have z := down w h1 hk h2 h3 h4 h5 h6
        rcases skip with e | ⟨w', b, _, _, _, _, _, e⟩
        · rw [e]; exact z
        · rw [e]; exact List.mem_cons_of_mem _ z
theorem keepX_own {x : Option Dv} {w : Dv} (h : keepX x = some w) : w = .x ∧ x = some .x := by
  unfold keepX at h
  split at h
  · cases h; exact ⟨rfl, rfl⟩
  · cases h
section
variable {mg : Mg} {F : Fr} {G : Hp} {ρ : Env} {σ : L2.St} {H : Hp}
theorem lend_get {j : Nat} {keep : List Nat} {dl : D} {k : Nat} {w : Dv} (e : (lendE j keep dl 0 ρ)[k]? = some (some w)) :
    (k = j ∧ w = .p dl) ∨ (k ≠ j ∧ keep.contains k = true ∧ ∃ u, ρ[k]? = some (some u) ∧ w = u.setIo true) ∨ (k ≠ j ∧ w = .x ∧ ρ[k]? = some (some .x)) := by
  rw [lendE_get] at e
  obtain ⟨x, e1, e2⟩ := Option.map_eq_some_iff.mp e
  rw [Nat.zero_add] at e2
  by_cases hk : k = j
  · rw [if_pos hk] at e2
    exact .inl ⟨hk, by cases e2; rfl⟩
  · rw [if_neg hk] at e2
    by_cases hc : keep.contains k = true
    · rw [if_pos hc] at e2
      obtain ⟨u, e3, e4⟩ := Option.map_eq_some_iff.mp e2
      subst e3
      exact .inr (.inl ⟨hk, hc, u, e1, e4.symm⟩)
    · rw [if_neg hc] at e2
      obtain ⟨h1, h2⟩ := keepX_own e2
      subst h2
      exact .inr (.inr ⟨hk, h1, e1⟩)
theorem lend_in {j : Nat} {keep : List Nat} {ul : Dv} {dl : D} {a : Addr} {x0 : HO} (R : Rel mg F G ρ σ H) (ej : ρ[j]? = some (some ul)) (hul : lendF ul = some dl) (sj : σ[j]? = some (some (.ref a))) (ga : G a = none) (ha : H a = some x0) (hlk : LK x0) (ra : ∀ G' : Hp, Same G G' → G' a = some x0 → Rp mg G' (.ref a) dl) :
    Rel mg ⟨H, upd G a x0, iosL j keep 0 ρ σ⟩ (upd G a x0) (lendE j keep dl 0 ρ) σ H := by
  have sG : Same G (upd G a x0) := fun c x q => by rw [upd_ne (fun z => by rw [z, ga] at q; cases q)]; exact q
  have na : ∀ k (w : Dv) b, k ≠ j → ρ[k]? = some (some w) → w.isP = false → σ[k]? = some (some (.ref b)) → b ≠ a := fun k w b hk e p s z => by
    subst z
    exact R.dist k j w _ b hk e ej p (lendF_np hul) s sj
  refine ⟨by rw [lendE_len]; exact R.len, fun c x q => ?_, Same.rfl, fun _ _ e _ => e, fun c h1 h2 => h2, fun k d e => ?_, fun k w e p => ?_, fun k l w u b hne e1 e2 p1 p2 s1 s2 => ?_, fun k b h => ?_, fun c z => ?_⟩
  · by_cases h : c = a
    · subst h; rw [upd_same] at q; cases q; exact ha
    · rw [upd_ne h] at q; exact R.sub _ _ q
  · rcases lend_get e with ⟨rfl, e2⟩ | ⟨hk, hc, u, e1, e2⟩ | ⟨hk, e2, _⟩
    · cases e2
      exact ⟨_, sj, ra _ sG upd_same⟩
    · cases u with
      | p d' =>
        cases e2
        obtain ⟨v, h1, h2⟩ := R.pure k d e1
        exact ⟨v, h1, h2.mono sG⟩
      | _ => cases e2
    · cases e2
  · rcases lend_get e with ⟨rfl, e2⟩ | ⟨hk, hc, u, e1, rfl⟩ | ⟨hk, e2, _⟩
    · subst e2; cases p
    · rw [Dv.setIo_isP] at p
      obtain ⟨b, h1, h2, h3, _⟩ := R.own k u e1 p
      refine ⟨b, h1, ?_, (h3.ext sG Same.rfl).setIo, fun z => ?_, fun _ => ?_⟩
      · show upd G a x0 b = none
        rw [upd_ne (na k u b hk e1 p h1)]; exact h2
      · rw [Dv.setIo_io p] at z; cases z
      · exact (iosL_mem 0 ρ σ k b).mpr ⟨u, Nat.zero_le _, e1, h1, hk, hc, p⟩
    · subst e2; cases p
  · rcases lend_get e1 with ⟨rfl, q⟩ | ⟨hk, hc, u1, q1, rfl⟩ | ⟨hk, q, _⟩
    · subst q; cases p1
    · rcases lend_get e2 with ⟨rfl, q⟩ | ⟨hl, hc2, u2, q2, rfl⟩ | ⟨hl, q, _⟩
      · subst q; cases p2
      · rw [Dv.setIo_isP] at p1 p2
        exact R.dist k l u1 u2 b hne q1 q2 p1 p2 s1 s2
      · subst q; cases p2
    · subst q; cases p1
  · obtain ⟨w, _, h2, h3, h4, h5, h6⟩ := (iosL_mem 0 ρ σ k b).mp h
    refine ⟨h3, w.setIo true, ?_, by rw [Dv.setIo_isP]; exact h6, Dv.setIo_io h6⟩
    have h2 : ρ[k]? = some (some w) := h2
    rw [lendE_get, h2]
    simp only [Option.map_some, Nat.zero_add]
    rw [if_neg h4, if_pos h5]
  · obtain ⟨⟨h1, h2⟩, h3⟩ := R.fix c z
    have hj : c.slot ≠ j := fun q => by rw [q, ej] at h2; cases h2; cases hul
    refine ⟨⟨h1, ?_⟩, h3.grow (fun fs y => by rw [ha] at y; cases y; exact hlk) sG⟩
    rw [lendE_get, h2]
    simp only [Option.map_some, Nat.zero_add]
    rw [if_neg hj]
    by_cases hc : keep.contains c.slot = true
    · rw [if_pos hc]; rfl
    · rw [if_neg hc]; rfl
theorem rest_get {j : Nat} {keep : List Nat} {dl : D} {ρ' : Env} (ok : okL j keep dl 0 ρ ρ') {k : Nat} {w : Dv} (e : (restL j keep 0 ρ ρ')[k]? = some (some w)) :
    ((k = j ∨ keep.contains k = false) ∧ ρ[k]? = some (some w)) ∨ (k ≠ j ∧ keep.contains k = true ∧ ∃ x u, ρ[k]? = some x ∧ ρ'[k]? = some (some u) ∧ w = u.setIo (ioO x) ∧ okY x (some u)) := by
  have hl := okL_len 0 ρ ρ' ok
  rw [restL_get 0 ρ ρ' k hl, Nat.zero_add] at e
  obtain ⟨x, e1, e2⟩ := Option.bind_eq_some_iff.mp e
  obtain ⟨y, e3, e4⟩ := Option.map_eq_some_iff.mp e2
  have z := okL_get 0 ρ ρ' ok k x y e1 e3
  rw [Nat.zero_add] at z
  by_cases hk : k = j
  · rw [if_pos hk] at e4
    subst e4
    exact .inl ⟨.inl hk, e1⟩
  · rw [if_neg hk] at e4 z
    by_cases hc : keep.contains k = true
    · rw [if_pos hc] at e4 z
      obtain ⟨u, e5, e6⟩ := Option.map_eq_some_iff.mp e4
      subst e5
      exact .inr ⟨hk, hc, x, u, e1, e3, e6.symm, z⟩
    · rw [if_neg hc] at e4
      subst e4
      exact .inl ⟨.inr (by simpa using hc), e1⟩
theorem lend_out {j : Nat} {keep : List Nat} {ul : Dv} {dl : D} {a : Addr} {x0 : HO} {G' H' : Hp} {ρ' : Env} (R : Rel mg F G ρ σ H) (ej : ρ[j]? = some (some ul)) (hul : lendF ul = some dl) (sj : σ[j]? = some (some (.ref a))) (ga : G a = none) (ha : H a = some x0) (hlk : LK x0) (ra : ∀ G' : Hp, Same G G' → G' a = some x0 → Rp mg G' (.ref a) dl)
    (R' : Rel mg ⟨H, upd G a x0, iosL j keep 0 ρ σ⟩ G' ρ' σ H') (s : Same (upd G a x0) G') (ok : okL j keep dl 0 ρ ρ') :
    Rel mg F (dropB (fun b => b = a) G') (restL j keep 0 ρ ρ') σ H' ∧ Same G (dropB (fun b => b = a) G') ∧ ∀ b, H b ≠ none → H' b ≠ none := by
  have hl := okL_len 0 ρ ρ' ok
  have Ga : G' a = some x0 := s _ _ upd_same
  have Ha : H' a = some x0 := R'.sub _ _ Ga
  have dr : ∀ b o, dropB (fun b => b = a) G' b = some o → b ≠ a ∧ G' b = some o := fun b o e => by
    unfold dropB at e
    by_cases h : b = a
    · rw [if_pos h] at e; cases e
    · rw [if_neg h] at e; exact ⟨h, e⟩
  have drn : ∀ b, b ≠ a → dropB (fun b => b = a) G' b = G' b := fun b h => if_neg h
  have dra : dropB (fun b => b = a) G' a = none := if_pos rfl
  have sG : Same G (dropB (fun b => b = a) G') := fun c x q => by
    have hc : c ≠ a := fun z => by rw [z, ga] at q; cases q
    rw [drn c hc]
    exact s _ _ (by rw [upd_ne hc]; exact q)
  have tr : ∀ {v d}, Rp mg G' v d → noL d = true → Rp mg (dropB (fun b => b = a) G') v d := fun r h => r.dropB (fun b hb => by subst hb; exact ⟨x0, Ga, hlk⟩) h
  have trA : ∀ {v d}, RpA mg G' v d → noLs d = true → RpA mg (dropB (fun b => b = a) G') v d := fun r h => r.dropB (fun b hb => by subst hb; exact ⟨x0, Ga, hlk⟩) h
  have trK : ∀ (xs : List (Key × V)) (ds : List (Key × D)), KvA mg G' xs ds → noLs (ds.map (·.2)) = true → KvA mg (dropB (fun b => b = a) G') xs ds := fun x d r h => by
    induction r with
    | nil => exact .nil
    | cons r t ih =>
      have h : (noL _ && noLs _) = true := h
      obtain ⟨h1, h2⟩ := Bool.and_eq_true_iff.mp h
      exact .cons ⟨r.1, tr r.2 h1⟩ (ih h2)
  have trO : ∀ (b : Addr) (u : Dv), Own mg G' H' b u → noLw u = true → Own mg (dropB (fun b => b = a) G') H' b u := fun b u h hh => by
    cases u with
    | p _ => exact h
    | x => exact h
    | o _ ds => obtain ⟨xs, q1, q2⟩ := h; exact ⟨xs, q1, trA q2 hh⟩
    | k _ ds => obtain ⟨xs, q1, q2⟩ := h; exact ⟨xs, q1, trK _ _ q2 hh⟩
  -- an own object that is not handed on stands
  have stay : ∀ (k : Nat) (w : Dv) (b : Addr), ρ[k]? = some (some w) → w.isP = false → σ[k]? = some (some (.ref b)) → (k = j ∨ keep.contains k = false) → ∀ o, H b = some o → H' b = some o := fun k w b e p sk hk o ho => by
    refine R'.h0 b o ho fun i hi => ?_
    obtain ⟨u, _, h2, h3, h4, h5, h6⟩ := (iosL_mem 0 ρ σ i b).mp hi
    have hne : i ≠ k := fun z => by
      subst z
      rcases hk with hk | hk
      · exact h4 hk
      · rw [h5] at hk; cases hk
    exact R.dist i k u w b hne h2 e h6 p h3 sk
  -- an own object behind is one of the handed on
  have ownAt : ∀ (k : Nat) (x : Option Dv) (u : Dv), ρ[k]? = some x → ρ'[k]? = some (some u) → u.isP = false → okY x (some u) → ∃ b w, x = some w ∧ w.isP = false ∧ σ[k]? = some (some (.ref b)) ∧ G' b = none ∧ Own mg G' H' b u ∧ noLw u = true := fun k x u e1 e2 p y => by
    obtain ⟨b, h1, h2, h3, h4, h5⟩ := R'.own k u e2 p
    have hn : noLw u = true ∧ u.io = true := by
      cases u with
      | p _ => cases p
      | x => cases p
      | o _ _ => exact y
      | k _ _ => exact y
    obtain ⟨w, _, g1, g2, g3, g4, g5⟩ := (iosL_mem 0 ρ σ k b).mp (h5 hn.2)
    have g1 : ρ[k]? = some (some w) := g1
    rw [e1] at g1
    cases g1
    exact ⟨b, w, rfl, g5, h1, h2, h3, hn.1⟩
  refine ⟨⟨by rw [restL_len 0 ρ ρ' hl]; exact R.len, fun c o q => R'.sub _ _ (dr c o q).2, R.g0.trans sG, fun b o e n => ?_, fun b h1 h2 => ?_, fun k d e => ?_, fun k w e p => ?_, fun k l w u b hne e1 e2 p1 p2 s1 s2 => ?_, fun k b h => ?_, fun c z => ?_⟩, sG, fun b hb => ?_⟩
  · refine R'.h0 b o (R.h0 b o e n) fun i hi => ?_
    obtain ⟨u, _, h2, h3, h4, h5, h6⟩ := (iosL_mem 0 ρ σ i b).mp hi
    obtain ⟨b', g1, g2, g3, g4, g5⟩ := R.own i u h2 h6
    have h3 : σ[i]? = some (some (.ref b)) := h3
    rw [h3] at g1
    cases g1
    cases hu : u.io with
    | true => exact n i (g5 hu)
    | false => rw [g4 hu] at e; cases e
  · by_cases hb : b = a
    · subst hb; exact dra
    · rw [drn b hb]
      have g := R.sep b h1 h2
      exact R'.sep b (R.old h1) (by show upd G a x0 b = none; rw [upd_ne hb]; exact g)
  · rcases rest_get ok e with ⟨_, e1⟩ | ⟨hk, hc, x, u, e1, e2, e3, y⟩
    · obtain ⟨v, h1, h2⟩ := R.pure k d e1
      exact ⟨v, h1, h2.mono sG⟩
    · cases u with
      | p d' =>
        cases e3
        rcases y with y | y
        · subst y
          obtain ⟨v, h1, h2⟩ := R.pure k d e1
          exact ⟨v, h1, h2.mono sG⟩
        · obtain ⟨v, h1, h2⟩ := R'.pure k d e2
          exact ⟨v, h1, tr h2 y⟩
      | _ => cases e3
  · rcases rest_get ok e with ⟨hk, e1⟩ | ⟨hk, hc, x, u, e1, e2, rfl, y⟩
    · obtain ⟨b, h1, h2, h3, h4, h5⟩ := R.own k w e1 p
      have hst := stay k w b e1 p h1 hk
      refine ⟨b, h1, ?_, ?_, h4, h5⟩
      · by_cases hb : b = a
        · subst hb; exact dra
        · rw [drn b hb]
          obtain ⟨o, ho⟩ := h3.some
          exact R'.sep b (by show H b ≠ none; rw [ho]; simp) (by show upd G a x0 b = none; rw [upd_ne hb]; exact h2)
      · cases w with
        | p _ => exact h3
        | x => exact h3
        | o _ ds => obtain ⟨ys, q1, q2⟩ := h3; exact ⟨ys, hst _ q1, q2.mono sG⟩
        | k _ ds => obtain ⟨ys, q1, q2⟩ := h3; exact ⟨ys, hst _ q1, KvA.mono sG q2⟩
    · rw [Dv.setIo_isP] at p
      obtain ⟨b, w, rfl, h1, h2, h3, h4, h5⟩ := ownAt k x u e1 e2 p y
      obtain ⟨b', g1, g2, g3, g4, g5⟩ := R.own k w e1 h1
      rw [h2] at g1
      cases g1
      have hb : b ≠ a := fun z => by subst z; rw [Ga] at h3; cases h3
      refine ⟨b, h2, by rw [drn b hb]; exact h3, (trO b u h4 h5).setIo, fun z => ?_, fun z => ?_⟩
      · rw [Dv.setIo_io p] at z; exact g4 z
      · rw [Dv.setIo_io p] at z; exact g5 z
  · have key : ∀ {k : Nat} {w : Dv}, (restL j keep 0 ρ ρ')[k]? = some (some w) → w.isP = false → ∃ u, ρ[k]? = some (some u) ∧ u.isP = false := fun {k w} e p => by
      rcases rest_get ok e with ⟨_, e1⟩ | ⟨hk, hc, x, u, e1, e2, rfl, y⟩
      · exact ⟨w, e1, p⟩
      · rw [Dv.setIo_isP] at p
        obtain ⟨b, w, rfl, h1, _⟩ := ownAt k x u e1 e2 p y
        exact ⟨w, e1, h1⟩
    obtain ⟨u1, q1, q2⟩ := key e1 p1
    obtain ⟨u2, q3, q4⟩ := key e2 p2
    exact R.dist k l u1 u2 b hne q1 q3 q2 q4 s1 s2
  · obtain ⟨e, w, h1, h2, h3⟩ := R.ios k b h
    refine ⟨e, ?_⟩
    have hlt : k < ρ'.length := by rw [hl]; exact (List.getElem?_eq_some_iff.mp h1).1
    by_cases hk : k ≠ j ∧ keep.contains k = true
    · have hi : (k, b) ∈ iosL j keep 0 ρ σ := (iosL_mem 0 ρ σ k b).mpr ⟨w, Nat.zero_le _, h1, e, hk.1, hk.2, h2⟩
      obtain ⟨_, u, g1, g2, g3⟩ := R'.ios k b hi
      refine ⟨u.setIo w.io, ?_, by rw [Dv.setIo_isP]; exact g2, by rw [Dv.setIo_io g2]; exact h3⟩
      rw [restL_get 0 ρ ρ' k hl, h1, g1]
      simp only [Option.bind_some, Option.map_some, Nat.zero_add]
      rw [if_neg hk.1, if_pos hk.2]
      rfl
    · refine ⟨w, ?_, h2, h3⟩
      rw [restL_get 0 ρ ρ' k hl, h1, List.getElem?_eq_getElem hlt]
      simp only [Option.bind_some, Option.map_some, Nat.zero_add]
      by_cases hkj : k = j
      · rw [if_pos hkj]
      · rw [if_neg hkj, if_neg (fun z => hk ⟨hkj, z⟩)]
  · obtain ⟨⟨h1, h2⟩, h3⟩ := R.fix c z
    obtain ⟨⟨_, g2⟩, g3⟩ := R'.fix c z
    refine ⟨⟨h1, ?_⟩, fun p e => ?_⟩
    · have hlt : c.slot < ρ'.length := (List.getElem?_eq_some_iff.mp g2).1
      rw [restL_get 0 ρ ρ' c.slot hl, h2, g2]
      simp only [Option.bind_some, Option.map_some, Nat.zero_add]
      by_cases hkj : c.slot = j
      · rw [if_pos hkj]
      · rw [if_neg hkj]
        by_cases hc : keep.contains c.slot = true
        · rw [if_pos hc]; rfl
        · rw [if_neg hc]
    · obtain ⟨q1, q2, q3⟩ := g3 p e
      obtain ⟨r1, r2, r3⟩ := h3 p e
      have hb : p.1 ≠ a := fun y => by rw [y, Ha] at q1; cases q1; exact hlk
      exact ⟨q1, by rw [drn _ hb]; exact q2, r3.mono sG⟩
  · exact R'.old (by show H b ≠ none; exact hb)
end
theorem kv_dropB {mg : Mg} {G : Hp} {B : Addr → Prop} [DecidablePred B] (hB : ∀ a, B a → ∃ x, G a = some x ∧ LK x) : ∀ {xs : List (Key × V)} {ds : List (Key × D)}, KvA mg G xs ds → noLs (ds.map (·.2)) = true → KvA mg (dropB B G) xs ds
  | _, _, .nil, _ => .nil
  | _, _, .cons r t, h => by
    have h : (noL _ && noLs _) = true := h
    obtain ⟨h1, h2⟩ := Bool.and_eq_true_iff.mp h
    exact .cons ⟨r.1, r.2.dropB hB h1⟩ (kv_dropB hB t h2)
open Classical in
/-- the value of m, the own list j lent to it; keep: the slots that m may see -/
noncomputable def lentM (j : Nat) (keep : List Nat) (m : M D) : M D := fun ρ => match (ρ[j]?).bind fun x => x.bind lendF with
  | some dl => match m (lendE j keep dl 0 ρ) with
    | .ok d ρ' => if okL j keep dl 0 ρ ρ' ∧ noL d = true then .ok d (restL j keep 0 ρ ρ') else .no
    | _ => .no
  | _ => .no
open Classical in
noncomputable def lentO (j : Nat) (keep : List Nat) (m : M Dv) : M Dv := fun ρ => match (ρ[j]?).bind fun x => x.bind lendF with
  | some dl => match m (lendE j keep dl 0 ρ) with
    | .ok d ρ' => if okL j keep dl 0 ρ ρ' ∧ noLw d = true then .ok d (restL j keep 0 ρ ρ') else .no
    | _ => .no
  | _ => .no
open Classical in
noncomputable def lentT (j : Nat) (keep : List Nat) (m : M Bool) : M Bool := fun ρ => match (ρ[j]?).bind fun x => x.bind lendF with
  | some dl => match m (lendE j keep dl 0 ρ) with
    | .ok d ρ' => if okL j keep dl 0 ρ ρ' then .ok d (restL j keep 0 ρ ρ') else .no
    | _ => .no
  | _ => .no
theorem he_lent {mg : Mg} {W : WX} {t : TE} {m : M D} (j : Nat) (keep : List Nat) (h : HE mg W t m) : HE mg W t (lentM j keep m) := by
  intro F G ρ σ H Q R s
  unfold lentM at s
  split at s
  rotate_left
  · exact s.elim
  rename_i dl eb
  obtain ⟨ux, ej, hux⟩ := Option.bind_eq_some_iff.mp eb
  obtain ⟨ul, rfl, hul⟩ := Option.bind_eq_some_iff.mp hux
  obtain ⟨a, sj, ga, ow0, _⟩ := R.own j _ ej (lendF_np hul)
  obtain ⟨x0, ha, hlk, ra⟩ := lendF_own hul ow0
  refine h _ _ _ σ H Q (lend_in (keep := keep) R ej hul sj ga ha hlk ra) ?_
  cases hm : m (lendE j keep dl 0 ρ) with
  | no => rw [hm] at s; exact s.elim
  | ex c ρ' => rw [hm] at s; exact s.elim
  | ok d ρ' =>
    rw [hm] at s
    dsimp only at s
    split at s
    rotate_left
    · exact s.elim
    rename_i ok
    intro G' H' v R' s' r
    obtain ⟨R2, sG, _⟩ := lend_out R ej hul sj ga ha hlk ra R' s' ok.1
    exact s _ H' v R2 sG (r.dropB (fun b hb => by subst hb; exact ⟨x0, s' _ _ upd_same, hlk⟩) ok.2)
theorem ht_lent {mg : Mg} {W : WX} {t : TT} {m : M Bool} (j : Nat) (keep : List Nat) (h : HT mg W t m) : HT mg W t (lentT j keep m) := by
  intro F G ρ σ H Q R s
  unfold lentT at s
  split at s
  rotate_left
  · exact s.elim
  rename_i dl eb
  obtain ⟨ux, ej, hux⟩ := Option.bind_eq_some_iff.mp eb
  obtain ⟨ul, rfl, hul⟩ := Option.bind_eq_some_iff.mp hux
  obtain ⟨a, sj, ga, ow0, _⟩ := R.own j _ ej (lendF_np hul)
  obtain ⟨x0, ha, hlk, ra⟩ := lendF_own hul ow0
  refine h _ _ _ σ H Q (lend_in (keep := keep) R ej hul sj ga ha hlk ra) ?_
  cases hm : m (lendE j keep dl 0 ρ) with
  | no => rw [hm] at s; exact s.elim
  | ex c ρ' => rw [hm] at s; exact s.elim
  | ok d ρ' =>
    rw [hm] at s
    dsimp only at s
    split at s
    rotate_left
    · exact s.elim
    rename_i ok
    intro G' H' R' s'
    obtain ⟨R2, sG, _⟩ := lend_out R ej hul sj ga ha hlk ra R' s' ok
    exact s _ H' R2 sG
theorem ho_lent {mg : Mg} {W : WX} {t : TE} {m : M Dv} (j : Nat) (keep : List Nat) (h : HO1 mg W t m) : HO1 mg W t (lentO j keep m) := by
  intro F G ρ σ H Q R s
  unfold lentO at s
  split at s
  rotate_left
  · exact s.elim
  rename_i dl eb
  obtain ⟨ux, ej, hux⟩ := Option.bind_eq_some_iff.mp eb
  obtain ⟨ul, rfl, hul⟩ := Option.bind_eq_some_iff.mp hux
  obtain ⟨a, sj, ga, ow0, _⟩ := R.own j _ ej (lendF_np hul)
  obtain ⟨x0, ha, hlk, ra⟩ := lendF_own hul ow0
  refine h _ _ _ σ H Q (lend_in (keep := keep) R ej hul sj ga ha hlk ra) ?_
  cases hm : m (lendE j keep dl 0 ρ) with
  | no => rw [hm] at s; exact s.elim
  | ex c ρ' => rw [hm] at s; exact s.elim
  | ok d ρ' =>
    rw [hm] at s
    dsimp only at s
    split at s
    rotate_left
    · exact s.elim
    rename_i ok
    intro G' H' b R' s' N
    have Ga : G' a = some x0 := s' _ _ upd_same
    obtain ⟨R2, sG, _⟩ := lend_out R ej hul sj ga ha hlk ra R' s' ok.1
    have hb : b ≠ a := fun z => by have := N.g; rw [z, Ga] at this; cases this
    have hB : ∀ c, c = a → ∃ x, G' c = some x ∧ LK x := fun c hc => by subst hc; exact ⟨x0, Ga, hlk⟩
    have Hb : H b = none := N.h0
    refine s _ H' b R2 sG ⟨N.np, N.nio, ?_, ?_, ?_, fun i u e p si => ?_⟩
    · show (if b = a then none else G' b) = none
      rw [if_neg hb]; exact N.g
    · have ow := N.own
      have hn := ok.2
      cases d with
      | p _ => exact ow
      | x => exact ow
      | o _ ds => obtain ⟨ys, q1, q2⟩ := ow; exact ⟨ys, q1, q2.dropB hB hn⟩
      | k _ ds =>
        obtain ⟨ys, q1, q2⟩ := ow
        exact ⟨ys, q1, kv_dropB hB q2 hn⟩
    · cases z : F.H0 b with
      | none => rfl
      | some o => exact absurd Hb (R.old (by rw [z]; simp))
    · obtain ⟨c, h1, h2, h3, _⟩ := R2.own i u e p
      rw [si] at h1
      cases h1
      have ow : ∃ w, ρ[i]? = some (some w) ∧ w.isP = false := by
        rcases rest_get ok.1 e with ⟨_, e1⟩ | ⟨hk, hc, x, u', e1, e2, rfl, y⟩
        · exact ⟨u, e1, p⟩
        · rw [Dv.setIo_isP] at p
          obtain ⟨b', g1, g2, g3, g4, g5⟩ := R'.own i u' e2 p
          have hn : u'.io = true := by
            cases u' with
            | p _ => cases p
            | x => cases p
            | o _ _ => exact y.2
            | k _ _ => exact y.2
          obtain ⟨w, _, k1, k2, k3, k4, k5⟩ := (iosL_mem 0 ρ σ i b').mp (g5 hn)
          exact ⟨w, k1, k5⟩
      obtain ⟨w, k1, k2⟩ := ow
      obtain ⟨c, l1, l2, l3, _⟩ := R.own i w k1 k2
      rw [si] at l1
      cases l1
      obtain ⟨o, ho⟩ := l3.some
      rw [Hb] at ho
      cases ho
theorem lentO_is {j : Nat} {keep : List Nat} {m : M Dv} {ρ ρ' : Env} {w : Dv} (hm : ∀ ρ w ρ', m ρ = .ok w ρ' → ∃ ds, w = .o false ds) (h : lentO j keep m ρ = .ok w ρ') : ∃ ds, w = .o false ds := by
  unfold lentO at h
  split at h
  · split at h
    · rename_i e
      split at h
      · cases h; exact hm _ _ _ e
      · cases h
    · cases h
  · cases h
section
variable {Φ : Fam}
theorem se_lent {e : Expr} {m : M D} (j : Nat) (keep : List Nat) (h : SE Φ e m) : SE Φ e (lentM j keep m) := by
  obtain ⟨t, p, h⟩ := h
  exact ⟨t, p, he_lent j keep h⟩
theorem so_lent {e : Expr} {m : M Dv} (j : Nat) (keep : List Nat) (h : SO Φ e m) : SO Φ e (lentO j keep m) := by
  obtain ⟨t, p, h⟩ := h
  exact ⟨t, p, ho_lent j keep h⟩
theorem st_lent {e : Expr} {m : M Bool} (j : Nat) (keep : List Nat) (h : ST Φ e m) : ST Φ e (lentT j keep m) := by
  obtain ⟨t, p, h⟩ := h
  exact ⟨t, p, ht_lent j keep h⟩
theorem sw_lent {e : Expr} {m : M Bool} (j : Nat) (keep : List Nat) (h : SW Φ e m) : SW Φ e (lentT j keep m) := by
  obtain ⟨t, p, h⟩ := h
  exact ⟨t, p, ht_lent j keep h⟩
end
/-! ### backward steps -/
section
variable {j : Nat} {keep : List Nat} {ρ : Env} {io : Bool} {ds : List D} {kvs : List (Key × D)}
theorem tr_lentM {m : M D} {P : D → Env → Prop} (e : ρ[j]? = some (some (.o io ds))) (h : Tr (m (lendE j keep (.lst ds) 0 ρ)) fun d ρ' => noL d = true ∧ okL j keep (.lst ds) 0 ρ ρ' ∧ P d (restL j keep 0 ρ ρ')) : Tr (lentM j keep m ρ) P := by
  unfold lentM
  rw [e]
  dsimp only [Option.bind_some, lendF]
  cases hm : m (lendE j keep (.lst ds) 0 ρ) with
  | no => rw [hm] at h; exact h.elim
  | ex c ρ' => rw [hm] at h; exact h.elim
  | ok d ρ' =>
    rw [hm] at h
    obtain ⟨h1, h2, h3⟩ := h
    dsimp only
    rw [if_pos ⟨h2, h1⟩]
    exact h3
theorem tr_lentO {m : M Dv} {P : Dv → Env → Prop} (e : ρ[j]? = some (some (.o io ds))) (h : Tr (m (lendE j keep (.lst ds) 0 ρ)) fun d ρ' => noLw d = true ∧ okL j keep (.lst ds) 0 ρ ρ' ∧ P d (restL j keep 0 ρ ρ')) : Tr (lentO j keep m ρ) P := by
  unfold lentO
  rw [e]
  dsimp only [Option.bind_some, lendF]
  cases hm : m (lendE j keep (.lst ds) 0 ρ) with
  | no => rw [hm] at h; exact h.elim
  | ex c ρ' => rw [hm] at h; exact h.elim
  | ok d ρ' =>
    rw [hm] at h
    obtain ⟨h1, h2, h3⟩ := h
    dsimp only
    rw [if_pos ⟨h2, h1⟩]
    exact h3
theorem tr_lentT {m : M Bool} {P : Bool → Env → Prop} (e : ρ[j]? = some (some (.o io ds))) (h : Tr (m (lendE j keep (.lst ds) 0 ρ)) fun d ρ' => okL j keep (.lst ds) 0 ρ ρ' ∧ P d (restL j keep 0 ρ ρ')) : Tr (lentT j keep m ρ) P := by
  unfold lentT
  rw [e]
  dsimp only [Option.bind_some, lendF]
  cases hm : m (lendE j keep (.lst ds) 0 ρ) with
  | no => rw [hm] at h; exact h.elim
  | ex c ρ' => rw [hm] at h; exact h.elim
  | ok d ρ' =>
    rw [hm] at h
    obtain ⟨h2, h3⟩ := h
    dsimp only
    rw [if_pos h2]
    exact h3
end
end Fl
end

section
set_option Elab.async false
set_option linter.all false
set_option maxRecDepth 100000
set_option autoImplicit false
/-! Fl, part 2: more methods. -/
namespace Fl
open PySem PySem.Spec PyProof.Rows L2
def idxL (ds : List D) (e : D) : Option Nat := ds.findIdx? fun z => PyData.eqv z.py e.py
/-- l.index(x) -/
def idxF (d e : D) : Option D := match d with
  | .lst ds => if (chk (.lst ds) && chk e) = true then (idxL ds e).map fun j => D.int (j : Nat) else none
  | _ => none
def idxM (mo m : M D) : M D := bindM mo fun d => match d with
  | .lst ds => bindM m fun e => optM (idxF (.lst ds) e)
  | _ => noM
section
variable {Φ : Fam}
theorem se_index {o e : Expr} {apos pos : Pos} {mo m : M D} (ho : SE Φ o mo) (h : SE Φ e m) (hst : ∀ env, starEach [e] env = (false, eval e env) :: starEach [] env := by intro _; first | rfl | with_unfolding_all rfl)
    (a1 : ∀ env, attributeBase o ("index" : Str) env (eval o env) = eval o env := by intro _; first | rfl | with_unfolding_all rfl)
    (a2 : ∀ env, (((backTo pos (starEach [e] env)).all fun x => !x.1) && ((backToKw pos (keywordEach [] env)).all fun x => x.1.isSome) && decide (([e] : List Expr).length + ([] : List Keyword).length + (if ([] : List Keyword).isEmpty = true then 0 else 1) < 30)) = true := by intro _; first | rfl | with_unfolding_all rfl)
    (a3 : (apos.endLine == pos.line) = true := by rfl) : SE Φ (.Call (.Attribute o ("index" : Str) apos) [e] [] pos) (idxM mo m) := by
  obtain ⟨to, po, ho⟩ := ho
  obtain ⟨t, p, h⟩ := h
  refine ⟨tBM Φ.K "list" (rIndexD Φ.K) to (tCons t tNil), fun i => by rw [← Φ.hK i]; exact pe_bm PySem.F.plainAttrs_list PySem.F.slot_list_index PySem.F.type_list_index (mt_indexD (by have := Φ.hu i; omega)) (po i) (pa1 (p i) hst) (a1 _) (a2 _) a3 (hst _) rfl, fun F G ρ σ H Q R s => ?_⟩
  refine ho F G ρ σ H _ R (s.bind.imp (fun d ρ1 q G1 H1 x R1 s1 r1 => ?_) fun _ _ z => z)
  cases r1 with
  | lst e2 ra =>
    refine ⟨.inl ⟨rfl, _, SqL.of (R1.sub _ _ e2)⟩, ?_⟩
    refine h F G1 ρ1 σ H1 _ R1 (q.bind.imp (fun e' ρ2 q2 G2 H2 y R2 s2 r2 => ?_) fun _ _ z => z)
    obtain ⟨z, e3, q3⟩ := q2.opt
    unfold idxF at e3
    dsimp only at e3
    split at e3
    · rename_i hc
      obtain ⟨h1, h2⟩ := Bool.and_eq_true_iff.mp hc
      obtain ⟨o1, p1⟩ := Bool.and_eq_true_iff.mp h1
      obtain ⟨o2, p2⟩ := Bool.and_eq_true_iff.mp h2
      obtain ⟨j, e4, rfl⟩ := Option.map_eq_some_iff.mp e3
      obtain ⟨hj, e5, e6⟩ := List.findIdx?_eq_some_iff_getElem.mp e4
      refine ⟨_, _, _, _, j, _, rfl, rfl, Rp.dp R2.sub (Rp.lst (s2 _ _ e2) (ra.mono s2)) o1, r2.dp R2.sub o2, p1, p2, ?_, e5, fun m z' hm hz => ?_, q3 G2 H2 _ R2 (s1.trans s2) (.int _)⟩
      · rw [pys_eq, List.getElem?_map, List.getElem?_eq_getElem hj]; rfl
      · rw [pys_eq, List.getElem?_map, List.getElem?_eq_getElem (by omega)] at hz
        cases hz
        have := e6 m hm
        simpa using this
    · cases e3
  | _ => exact q.elim
end
/-! ### y = [..], y a cell -/
theorem sw_cell {elt : Expr} {gs : List Comprehension} {scope : Scope} {pos py : Pos} {y : Str} {l : Nat} {env : PySem.Env} (hy : env.scope.names.lookup y = some .cell) : swapsWith (.ListComp elt gs scope pos) (some (.Name y py)) l env = pure false := by
  have ky : env.kindOf y = some .cell := hy
  unfold swapsWith
  simp only [ky]
  have e : ((some NameKind.cell : Option NameKind) == some .local) = false := by decide
  rw [e, Bool.and_false, Bool.false_and, Bool.false_and]
  all_goals rfl
section
variable {Φ : Fam}
theorem ss_setC {i : Nat} {x : Str} {elt : Expr} {gs : List Comprehension} {scope : Scope} {p0 pos pos' : Pos} {m : M D} (hN : Φ.N[i]? = some x) (hl : Loc Φ.sc0 x) (hy : Φ.sc.names.lookup x = some .cell) (h : SE Φ (.ListComp elt gs scope p0) m) : SS Φ (.Assign [.Name x pos'] (.ListComp elt gs scope p0) pos) (setM i m) := by
  obtain ⟨t, p, h⟩ := h
  refine ⟨_, fun j => ps_set (Φ.ndi j) (Φ.nx hN j) (Φ.loc hl j) (p j) (sw_cell (by rw [Φ.hsc j]; exact hy)) (Φ.fnl hl j), fun F G ρ σ H D R s => ?_⟩
  exact h F G ρ σ H _ R (s.bind.imp (fun d ρ1 q G1 H1 v R1 s1 r => putP_ok q R1 s1 r) fun _ _ z => z)
theorem ss_setOC {i : Nat} {x : Str} {elt : Expr} {gs : List Comprehension} {scope : Scope} {p0 pos pos' : Pos} {m : M Dv} (hN : Φ.N[i]? = some x) (hl : Loc Φ.sc0 x) (hy : Φ.sc.names.lookup x = some .cell) (h : SO Φ (.ListComp elt gs scope p0) m) : SS Φ (.Assign [.Name x pos'] (.ListComp elt gs scope p0) pos) (setO i m) := by
  obtain ⟨t, p, h⟩ := h
  refine ⟨_, fun j => ps_set (Φ.ndi j) (Φ.nx hN j) (Φ.loc hl j) (p j) (sw_cell (by rw [Φ.hsc j]; exact hy)) (Φ.fnl hl j), fun F G ρ σ H D R s => ?_⟩
  exact h F G ρ σ H _ R (s.bind.imp (fun d ρ1 q G1 H1 v R1 s1 r => putO_ok q R1 s1 r) fun _ _ z => z)
/-- y = [..] on one line, the list made while own lists are lent -/
theorem ss_setLcL {i : Nat} {y : Str} {py : Pos} {elt tg iter : Expr} {ifs : List Expr} {scope : Scope} {own : List (Str × Nat)} {pos spos : Pos} {mi : M (List D)} {f : D → Env → Option Env} {ts : List Nat} {mt : M Bool} {me : M D} {fz : Bool} (jl : Nat) (keep : List Nat) (hN : Φ.N[i]? = some y) (hyl : Φ.sc.names.lookup y = some .local) (hkind : Φ.sc.kind = .function)
    (hi : SI Φ tg iter mi) (ok : BlkOk Φ.N Φ.sc scope own) (hg : SG (Φ.blk scope) tg f ts) (ht : STs (Φ.blk scope) ifs mt) (he : SE (Φ.blk scope) elt me) (hts : (ts.all fun t => (own.map (·.2)).contains t) = true) (hline : (py.line == pos.line) = true := by rfl)
    (hnot : (scope.names.any fun (n, k) => n == y && (k == .local || k == .cell)) = false := by decide +kernel) (hs : ∀ env x, foldedSetIterable iter env x = pure x := by intro _ _; first | rfl | with_unfolding_all rfl) (hc : Φ.cal = true := by rfl) :
    SS Φ (.Assign [.Name y py] (.ListComp elt [⟨tg, iter, ifs, 0⟩] scope pos) spos) (if fz = true then setM i (frzM (lentO jl keep (lcM (own.map (·.2)) mi f mt me))) else setO i (lentO jl keep (lcM (own.map (·.2)) mi f mt me))) := by
  obtain ⟨wi, pi, hi⟩ := hi
  obtain ⟨g, pg, hg⟩ := hg
  obtain ⟨tt, pt, ht⟩ := ht
  obtain ⟨te, pe, he⟩ := he
  refine ⟨tAsg (tLc wi g tt te (own.map (·.2))) (gName i), fun j => ps_setLc (Φ.calm hc j) (Φ.ndi j) (Φ.nx hN j) (by rw [Φ.hsc j]; exact hyl) (sw_true (by rw [Φ.hsc j]; exact hkind) (by rw [Φ.hsc j]; exact hyl) hline hnot) (pi j) (by rw [Φ.hN j, Φ.hsc j]; exact ok) (fun s H C cl fp => pg (j, s, H, C, cl, fp)) (fun s H C cl fp => pt (j, s, H, C, cl, fp)) (fun s H C cl fp => pe (j, s, H, C, cl, fp)) (hs _), fun F G ρ σ H D R s => ?_⟩
  have hts' : ∀ t ∈ ts, t ∈ own.map (·.2) := fun t h => by
    have z := List.all_eq_true.mp hts t h
    exact List.contains_iff_mem.mp z
  have ho := ho_lent jl keep (ho_lc hi hg ht he hts')
  cases fz with
  | true =>
    rw [if_pos rfl] at s
    refine ho F G ρ σ H _ R ((s.bind.bind.keep (fun a ρ e => lentO_is (fun _ _ _ z => lcM_is z) e)).imp (fun w ρ1 q G1 H1 a R1 s1 N => ?_) fun _ _ z => z)
    obtain ⟨⟨ds0, rfl⟩, q⟩ := q
    obtain ⟨d, e1, q⟩ := q.opt
    cases e1
    obtain ⟨xs, e, R2, sg2, r⟩ := R1.freeze N
    exact putP_ok q R2 (s1.trans sg2) r
  | false =>
    rw [if_neg Bool.false_ne_true] at s
    exact ho F G ρ σ H _ R (s.bind.imp (fun w ρ1 q G1 H1 a R1 s1 N => putO_ok q R1 s1 N) fun _ _ z => z)
end
/-! ### backward steps -/
theorem tr_idxM {mo m : M D} {ρ : Env} {P : D → Env → Prop} (h : Tr (mo ρ) fun d ρ1 => ∃ ds, d = .lst ds ∧ Tr (m ρ1) fun e ρ2 => Tr (optM (idxF (.lst ds) e) ρ2) P) : Tr (idxM mo m ρ) P :=
  tr_bind (h.mono fun d ρ1 q => by obtain ⟨ds, rfl, q⟩ := q; exact tr_bind q)
end Fl
end

section
set_option Elab.async false
set_option linter.all false
set_option maxRecDepth 100000
set_option autoImplicit false
/-! Fl, part 3: zip. -/
namespace Fl
open PySem PySem.Spec PyProof.Rows L2
def zipD (xs ys : List D) : List D := List.zipWith (fun x y => D.tup [x, y]) xs ys
/-- zip of two lists or of two tuples -/
def zipF (d e : D) : Option (List D) := match d, e with
  | .lst xs, .lst ys => some (zipD xs ys)
  | .tup xs, .tup ys => some (zipD xs ys)
  | _, _ => none
theorem zipD_get {xs ys : List D} {i : Nat} {d : D} (h : (zipD xs ys)[i]? = some d) : ∃ x y, xs[i]? = some x ∧ ys[i]? = some y ∧ d = .tup [x, y] := by
  unfold zipD at h
  rw [List.getElem?_zipWith] at h
  cases e1 : xs[i]? with
  | none => rw [e1] at h; cases h
  | some x =>
    cases e2 : ys[i]? with
    | none => rw [e1, e2] at h; cases h
    | some y => rw [e1, e2] at h; cases h; exact ⟨x, y, rfl, rfl, rfl⟩
theorem zipD_len (xs ys : List D) : (zipD xs ys).length = min xs.length ys.length := by unfold zipD; rw [List.length_zipWith]
theorem iter_zip {mg : Mg} {G1 : Hp} {ds : List D} {i : Nat} {d d1 d2 : D} {x y : V} {H G : Hp} {T : Addr} (hT : H T = none) (sg : Same G1 G) (sh : Same G H) (rx : Rp mg G1 x d1) (ry : Rp mg G1 y d2) :
    ∃ G', Ext G H G' (upd H T (.tup [x, y])) ∧ Rp mg G' (.ref T) (.tup [d1, d2]) := by
  have e := Ext.alloc sh hT (.tup [x, y])
  exact ⟨_, e, .tup upd_same (.cons (rx.mono (sg.trans e.hG)) (.cons (ry.mono (sg.trans e.hG)) .nil))⟩
theorem iter_zipL {mg : Mg} {K : PySem.W.Frag} {G : Hp} {a b : Addr} {xs ys : List V} {ds es : List D} (h : ∀ H, Same G H → SqL K H a xs) (h2 : ∀ H, Same G H → SqL K H b ys) (r : RpA mg G xs ds) (r2 : RpA mg G ys es) : IterOk mg G (Itz K a b) (zipD ds es) where
  go := fun i H s hi => by
    rw [zipD_len] at hi
    have l1 := r.length
    have l2 := r2.length
    exact ⟨xs, ys, xs[i]'(by omega), ys[i]'(by omega), h H s, h2 H s, List.getElem?_eq_getElem _, List.getElem?_eq_getElem _⟩
  stop := fun i H s hi => by
    rw [zipD_len] at hi
    have l1 := r.length
    have l2 := r2.length
    exact ⟨xs, ys, h H s, h2 H s, by omega⟩
  yld := fun i H x H' d s hy hd G' sg sh => by
    obtain ⟨T, u, v, rfl, hT, rfl, q1, q2⟩ := hy
    obtain ⟨d1, d2, e1, e2, rfl⟩ := zipD_get hd
    obtain ⟨u', f1, r1⟩ := r.get e1
    obtain ⟨v', f2, r2'⟩ := r2.get e2
    rw [q1 xs (h _ s)] at f1
    rw [q2 ys (h2 _ s)] at f2
    cases f1
    cases f2
    exact iter_zip (ds := ds) (i := i) (d := d1) hT sg sh r1 r2'
theorem iter_zipT {mg : Mg} {K : PySem.W.Frag} {G : Hp} {a b : Addr} {xs ys : List V} {ds es : List D} (h : ∀ H, Same G H → SqT K H a xs) (h2 : ∀ H, Same G H → SqT K H b ys) (r : RpA mg G xs ds) (r2 : RpA mg G ys es) : IterOk mg G (RZ.ItzT K a b) (zipD ds es) where
  go := fun i H s hi => by
    rw [zipD_len] at hi
    have l1 := r.length
    have l2 := r2.length
    exact ⟨xs, ys, xs[i]'(by omega), ys[i]'(by omega), h H s, h2 H s, List.getElem?_eq_getElem _, List.getElem?_eq_getElem _⟩
  stop := fun i H s hi => by
    rw [zipD_len] at hi
    have l1 := r.length
    have l2 := r2.length
    exact ⟨xs, ys, h H s, h2 H s, by omega⟩
  yld := fun i H x H' d s hy hd G' sg sh => by
    obtain ⟨T, u, v, rfl, hT, rfl, q1, q2⟩ := hy
    obtain ⟨d1, d2, e1, e2, rfl⟩ := zipD_get hd
    obtain ⟨u', f1, r1⟩ := r.get e1
    obtain ⟨v', f2, r2'⟩ := r2.get e2
    rw [q1 xs (h _ s)] at f1
    rw [q2 ys (h2 _ s)] at f2
    cases f1
    cases f2
    exact iter_zip (ds := ds) (i := i) (d := d1) hT sg sh r1 r2'
theorem pa2 {X : Cx} {e e2 : Expr} {t t2 : TE} (h : PE X e t) (h2 : PE X e2 t2) (hst : ∀ env, starEach [e, e2] env = (false, eval e env) :: starEach [e2] env) (hst2 : ∀ env, starEach [e2] env = (false, eval e2 env) :: starEach [] env) : PA X [e, e2] (tCons t (tCons t2 tNil)) := pa_cons h (pa1 h2 hst2) (hst _)
section
variable {Φ : Fam}
theorem si_zip {elts : List Expr} {kk : Nat} {tpos p pos : Pos} {e e2 : Expr} {m m2 : M D} (h : SE Φ e m) (h2 : SE Φ e2 m2) (hg : Φ.sc.names.lookup ("zip" : Str) = some .globalImplicit) (hm : Φ.mg "zip" = none)
    (hst : ∀ env, starEach [e, e2] env = (false, eval e env) :: starEach [e2] env := by intro _; first | rfl | with_unfolding_all rfl) (hst2 : ∀ env, starEach [e2] env = (false, eval e2 env) :: starEach [] env := by intro _; first | rfl | with_unfolding_all rfl)
    (hpl : ∀ env, (backTo pos (starEach [e2] env)).any (·.1) = false := by intro _; first | rfl | with_unfolding_all rfl) :
    SI Φ (.Tuple elts kk tpos) (.Call (.Name "zip" p) [e, e2] [] pos) (bindM m fun d => bindM m2 fun d2 => optM (zipF d d2)) := by
  obtain ⟨t, q, h⟩ := h
  obtain ⟨t2, q2, h2⟩ := h2
  refine ⟨RZ.iZipA Φ.K (tCons t (tCons t2 tNil)), fun i => by rw [← Φ.hK i]; exact RZ.pi_zipA (Φ.gl hg i) (Φ.mgn hm i) (pa2 (q i) (q2 i) hst hst2) (hst _) (hpl _), fun F G ρ σ H Q R s => ?_⟩
  refine h F G ρ σ H _ R (s.bind.imp (fun d ρ1 q G1 H1 v R1 s1 r => ?_) fun _ _ z => z)
  refine h2 F G1 ρ1 σ H1 _ R1 (q.bind.imp (fun d2 ρ2 q2 G2 H2 v2 R2 s2 r2 => ?_) fun _ _ z => z)
  obtain ⟨z, e1, q3⟩ := q2.opt
  unfold zipF at e1
  split at e1
  · cases e1
    cases r with
    | lst e r =>
      cases r2 with
      | lst e2 r2 =>
        refine ⟨_, _, _, _, rfl, .inl ⟨SqL.of (R2.sub _ _ (s2 _ _ e)), SqL.of (R2.sub _ _ e2), q3 G2 H2 _ R2 (s1.trans s2) (iter_zipL (fun H' s' => SqL.of (s' _ _ (s2 _ _ e))) (fun H' s' => SqL.of (s' _ _ e2)) (r.mono s2) r2)⟩⟩
  · cases e1
    cases r with
    | tup e r =>
      cases r2 with
      | tup e2 r2 =>
        refine ⟨_, _, _, _, rfl, .inr ⟨SqT.of (R2.sub _ _ (s2 _ _ e)), SqT.of (R2.sub _ _ e2), q3 G2 H2 _ R2 (s1.trans s2) (iter_zipT (fun H' s' => SqT.of (s' _ _ (s2 _ _ e))) (fun H' s' => SqT.of (s' _ _ e2)) (r.mono s2) r2)⟩⟩
  · cases e1
end
end Fl
end

section
set_option Elab.async false
set_option linter.all false
set_option maxRecDepth 100000
set_option autoImplicit false
/-! Fl, part 4: while. -/
namespace Fl
open PySem PySem.Spec PyProof.Rows L2
/-- while c: b, at most n turns -/
def whileM : Nat → M Bool → M Fw → M Fw
  | 0, _, _ => noM
  | n + 1, c, b => bindM c fun x ρ => if x = true then match b ρ with
      | .ok .nx ρ2 => whileM n c b ρ2
      | .ok .ct ρ2 => whileM n c b ρ2
      | .ok .bk ρ2 => .ok .nx ρ2
      | .ok (.ret w) ρ2 => .ok (.ret w) ρ2
      | .ex c ρ2 => .ex c ρ2
      | .no => .no
    else .ok .nx ρ
section
variable {Φ : Fam}
theorem hs_while {W : WX} {mg : Mg} {tc : TT} {tb : TS} {c : M Bool} {b : M Fw} (n : Nat) (hc : HT mg W tc c) (hb : HS mg W tb b) : HS mg W (tWhile tc tb) (whileM n c b) := by
  intro F G ρ σ H D R s
  refine ⟨fun m σ' H' => ∃ G' ρ', Rel mg F G' ρ' σ' H' ∧ Same G G' ∧ Sat (whileM m c b ρ') (FPost mg F G D) (ExK mg W F), ⟨n, G, ρ, R, Same.rfl, s⟩, ?_⟩
  rintro m σ' H' ⟨G', ρ', R', s', q'⟩
  cases m with
  | zero => exact q'.elim
  | succ m =>
    unfold whileM at q'
    refine hc F G' ρ' σ' H' _ R' (q'.bind.imp (fun x ρ1 q G1 H1 R1 s1 => ?_) fun _ _ z => z)
    cases x with
    | false => exact q G1 σ' H1 R1 (s'.trans s1)
    | true =>
      rw [if_pos rfl] at q ⊢
      refine ⟨fun σ2 H2 => ∃ G2 ρ2, Rel mg F G2 ρ2 σ2 H2 ∧ Same G G2 ∧ Sat (whileM m c b ρ2) (FPost mg F G D) (ExK mg W F), fun σ2 H2 h => ⟨m, Nat.lt_succ_self _, h⟩, ?_⟩
      refine hb F G1 ρ1 σ' H1 _ R1 ?_
      cases e2 : b ρ1 with
      | ok fl ρ3 =>
        simp only [e2] at q
        cases fl with
        | nx => exact fun G4 σ4 H4 R4 s4 => ⟨G4, ρ3, R4, s'.trans (s1.trans s4), q⟩
        | ct => exact fun G4 σ4 H4 R4 s4 => ⟨G4, ρ3, R4, s'.trans (s1.trans s4), q⟩
        | bk => exact fun G4 σ4 H4 R4 s4 => q G4 σ4 H4 R4 (s'.trans (s1.trans s4))
        | ret w => exact fun G4 σ4 H4 v R4 s4 => q G4 σ4 H4 v R4 (s'.trans (s1.trans s4))
      | ex c ρ3 => simp only [e2] at q; exact q
      | no => simp only [e2] at q; exact q
theorem ss_while {c : Expr} {body : List Stmt} {pos : Pos} {mc : M Bool} {b : M Fw} (n : Nat) (hc : ST Φ c mc) (hb : SSs Φ body b) : SS Φ (.While c body [] pos) (whileM n mc b) := by
  obtain ⟨tc, pc, hc⟩ := hc
  obtain ⟨tb, pb, hb⟩ := hb
  exact ⟨_, fun i => ps_while (Φ.own i) (pc i) (pb i), hs_while n hc hb⟩
end
/-! ### backward steps -/
theorem tr_whileM {n : Nat} {c : M Bool} {b : M Fw} {ρ : Env} {P : Fw → Env → Prop} (h : Tr (c ρ) fun x ρ1 => if x = true then Tr (b ρ1) fun fl ρ2 => match fl with
    | .nx => Tr (whileM n c b ρ2) P
    | .ct => Tr (whileM n c b ρ2) P
    | .bk => P .nx ρ2
    | .ret w => P (.ret w) ρ2 else P .nx ρ1) : Tr (whileM (n + 1) c b ρ) P := by
  unfold whileM
  refine tr_bind (h.mono fun x ρ1 q => ?_)
  cases x with
  | false => exact q
  | true =>
    rw [if_pos rfl] at q ⊢
    cases e : b ρ1 with
    | ok fl ρ2 => rw [e] at q; cases fl <;> exact q
    | ex c ρ2 => rw [e] at q; exact q.elim
    | no => rw [e] at q; exact q.elim
end Fl
end

section
set_option Elab.async false
set_option linter.all false
set_option maxRecDepth 100000
set_option autoImplicit false
/-! Fl, part 5: comprehensions with two generators. -/
namespace Fl
open PySem PySem.Spec PyProof.Rows L2
section
variable {prog : Program} {w : World} {A : Around} {R : Result → Shared → Prop} {s : Shared} {elt t1 t2 i1 i2 : Expr} {f1 f2 : List Expr} {scope : Scope} {pos : Pos} {it acc : Value} {env : PySem.Env}
abbrev lc2E (elt t1 t2 i1 i2 : Expr) (f1 f2 : List Expr) (scope : Scope) (pos : Pos) : Expr := .ListComp elt [⟨t1, i1, f1, 0⟩, ⟨t2, i2, f2, 0⟩] scope pos
/-- the inner loop, turn by turn -/
theorem loop_in (I : Nat → Shared → Prop)
    (turn : ∀ n s, I n s → wpAny (model prog w) A (pyNext it) (fun r s₁ => match r with
      | none => R (.ok .next) s₁
      | some v => wpAny (model prog w) A (letOwnedTupleGo t2 it v) (fun _ s₁' => wpAny (model prog w) A (assign t2 env v) (fun _ s₂ =>
          wpAny (model prog w) A (forIn f2 true fun c r => if r = true then do let ok ← isTrue c env (eval c env); pure (ForInStep.yield ok) else pure (ForInStep.yield r)) (fun ok s₃ =>
            if ok = true then wpAny (model prog w) A (eval elt env) (fun x s₄ =>
              wpAny (model prog w) A (call (.builtin "list.append") [acc, x]) (fun _ s₅ => ∃ m, m < n ∧ I m s₅) (fun _ _ => False) s₄) (fun _ _ => False) s₃
            else ∃ m, m < n ∧ I m s₃) (fun _ _ => False) s₂) (fun _ _ => False) s₁') (fun _ _ => False) s₁) (fun _ _ => False) s)
    (n : Nat) (h : I n s) :
    codeAny (model prog w) A (.compLoop (lc2E elt t1 t2 i1 i2 f1 f2 scope pos) 1 it acc env) R s := by
  refine codeAny_loop rfl I (fun n s hI => ?_) n h
  show wpAny _ A ((compTurn (lc2E elt t1 t2 i1 i2 f1 f2 scope pos) 1 it acc env).onRaise (fun x => do noteFrame x env; theTreesLotGoes x)) _ _ s
  refine wpAny_noted ?_
  rw [compTurn_list2_in]
  refine wpAny_bind (wpAny_standAt (wpAny_bind (wpAny_mono (turn n s hI) (fun r s₁ h₁ => ?_) fun _ _ h' => h'.elim)))
  cases r with
  | none => exact wpAny_pure h₁
  | some v =>
    refine wpAny_bind (wpAny_mono h₁ (fun _ s₁' h₁' => ?_) fun _ _ h' => h'.elim)
    refine wpAny_bind (wpAny_mono h₁' (fun _ s₂ h₂ => wpAny_bind (wpAny_mono h₂ (fun ok s₃ h₃ => ?_) fun _ _ h' => h'.elim)) fun _ _ h' => h'.elim)
    cases ok with
    | false => exact wpAny_pure ⟨rfl, h₃⟩
    | true => exact wpAny_bind (wpAny_bind (wpAny_mono h₃ (fun x s₄ h₄ => wpAny_bind (wpAny_mono h₄ (fun _ s₅ h₅ => wpAny_pure (wpAny_pure ⟨rfl, h₅⟩)) fun _ _ h' => h'.elim)) fun _ _ h' => h'.elim))
/-- the outer loop, turn by turn -/
theorem loop_out (I : Nat → Shared → Prop)
    (turn : ∀ n s, I n s → wpAny (model prog w) A (pyNext it) (fun r s₁ => match r with
      | none => R (.ok .next) s₁
      | some v => wpAny (model prog w) A (letOwnedTupleGo t1 it v) (fun _ s₁' => wpAny (model prog w) A (assign t1 env v) (fun _ s₂ =>
          wpAny (model prog w) A (forIn f1 true fun c r => if r = true then do let ok ← isTrue c env (eval c env); pure (ForInStep.yield ok) else pure (ForInStep.yield r)) (fun ok s₃ =>
            if ok = true then wpAny (model prog w) A (eval i2 env) (fun x s₄ => wpAny (model prog w) A (pyIter x) (fun u s₅ =>
              codeAny (model prog w) A (.compStart (lc2E elt t1 t2 i1 i2 f1 f2 scope pos) 1 u acc env) (fun r s₆ => r = .ok .next ∧ ∃ m, m < n ∧ I m s₆) s₅) (fun _ _ => False) s₄) (fun _ _ => False) s₃
            else ∃ m, m < n ∧ I m s₃) (fun _ _ => False) s₂) (fun _ _ => False) s₁') (fun _ _ => False) s₁) (fun _ _ => False) s)
    (hs : ∀ x, foldedSetIterable i2 env x = pure x) (n : Nat) (h : I n s) :
    codeAny (model prog w) A (.compLoop (lc2E elt t1 t2 i1 i2 f1 f2 scope pos) 0 it acc env) R s := by
  refine codeAny_loop rfl I (fun n s hI => ?_) n h
  show wpAny _ A ((compTurn (lc2E elt t1 t2 i1 i2 f1 f2 scope pos) 0 it acc env).onRaise (fun x => do noteFrame x env; theTreesLotGoes x)) _ _ s
  refine wpAny_noted ?_
  rw [compTurn_list2_out]
  refine wpAny_bind (wpAny_standAt (wpAny_bind (wpAny_mono (turn n s hI) (fun r s₁ h₁ => ?_) fun _ _ h' => h'.elim)))
  cases r with
  | none => exact wpAny_pure h₁
  | some v =>
    refine wpAny_bind (wpAny_mono h₁ (fun _ s₁' h₁' => ?_) fun _ _ h' => h'.elim)
    refine wpAny_bind (wpAny_mono h₁' (fun _ s₂ h₂ => wpAny_bind (wpAny_mono h₂ (fun ok s₃ h₃ => ?_) fun _ _ h' => h'.elim)) fun _ _ h' => h'.elim)
    cases ok with
    | false => exact wpAny_pure ⟨rfl, h₃⟩
    | true =>
      refine wpAny_bind (wpAny_mono h₃ (fun x s₄ h₄ => ?_) fun _ _ h' => h'.elim)
      refine wpAny_bind (wpAny_standAt ?_)
      rw [hs]
      refine wpAny_bind (wpAny_pure (wpAny_bind (wpAny_holding (wpAny_mono h₄ (fun u s₅ h₅ => ?_) fun _ _ h' => h'.elim))))
      refine wpAny_bind (wpAny_runOwn (h := none) ?_ (by intro z; cases z))
      rw [show A.mark none = A by cases A; rfl]
      refine codeAny_mono h₅ fun r s₆ h₆ => ?_
      obtain ⟨rfl, h₆⟩ := h₆
      exact wpAny_pure ⟨rfl, h₆⟩
end
/-- the inner loop's word: σ2 the slots where it starts, Nx what the outer turn is to reach -/
def tIn (g2 : TG) (tt2 : TT) (te : TE) (vs2 : List Nat) (D : Addr) (Nx : Hp → Prop) (σ2 : L2.St) (J : It) (H : Hp) : Prop := ∃ W : Nat → Nat → Hp → Prop, (∃ m, W 0 m H) ∧ ∀ i m H, W i m H →
  (J.stop i H ∧ Nx H) ∨ (J.go i H ∧ ∃ N2 : Hp → Prop, (∀ H', N2 H' → ∃ m', m' < m ∧ W (i + 1) m' H') ∧ ∀ x H', J.yld i H x H' → g2 x (wipe σ2 vs2) H' fun σ3 H5 => wipe σ3 vs2 = wipe σ2 vs2 ∧ tt2 σ3 H5 fun b H6 =>
    if b = true then te σ3 H6 fun y H7 => ∃ acc, H7 D = some (.lst acc) ∧ acc.length < sizeLine ∧ N2 (upd H7 D (.lst (acc ++ [y]))) else N2 H6)
theorem in_run {B : Cx} {pins : List (Addr × Obj)} {σ2 : L2.St} {H : Hp} {s : Shared} {elt t1 t2 i1 i2 : Expr} {f1 f2 : List Expr} {scope : Scope} {pos : Pos} {D it : Addr} {fp : List Addr} {tn : Nat → Heap → Prop} {J : It} {g2 : TG} {tt2 : TT} {te : TE} {vs2 : List Nat} {Nx : Hp → Prop}
    (hc : B.calm = true) (I : Inv B pins σ2 H s) (T : Turn B.prog B.w B.K t2 J fp it tn) (st : tn 0 s.heap) (f : ∀ b ∈ fp, FpOk B pins H b) (pg : PG B t2 g2) (pt : PTs B f2 tt2) (pe : PE B elt te) (hx : B.xe = fun _ _ => False) (h : tIn g2 tt2 te vs2 D Nx σ2 J H) :
    codeAny (model B.prog B.w) B.A (.compLoop (lc2E elt t1 t2 i1 i2 f1 f2 scope pos) 1 (.ref it) (.ref D) B.env) (fun r s' => r = .ok .next ∧ ∃ H', Inv B pins (wipe σ2 vs2) H' s' ∧ Nx H') s := by
  obtain ⟨W, ⟨m0, w0⟩, turn⟩ := h
  have stat : ∀ {H' : Hp}, (∀ b ∈ fp, H' b = none) → ∀ b ∈ fp, FpOk B pins H' b := fun {H'} hn b hb => ⟨hn b hb, (f b hb).2⟩
  refine loop_in (fun n s' => ∃ i H', Inv B pins (wipe σ2 vs2) H' s' ∧ tn i s'.heap ∧ (∀ b ∈ fp, H' b = none) ∧ W i n H') ?_ m0 ⟨0, H, I.weak (wipe_length _ _) (fun i v e => (wipe_some e).1), st, fun b hb => (f b hb).1, w0⟩
  rintro n s5 ⟨i, H5, I5, st5, n5, w5⟩
  rcases turn i n H5 w5 with ⟨stop, qq⟩ | ⟨go, N2, hN2, step⟩
  · refine thnF (T.done B rfl rfl rfl hc i pins s5 _ H5 (fun _ _ => False) I5 (stat n5) st5 stop) fun r s6 ⟨hr, I6⟩ => ?_
    subst hr
    exact ⟨rfl, H5, I6, qq⟩
  · refine thnF (T.item B rfl rfl rfl hc i pins s5 _ H5 (fun _ _ => False) I5 (stat n5) st5 go) fun r s6 ⟨u, hr, h6⟩ => ?_
    subst hr
    refine thnF h6 fun _ s7 ⟨x, H7, I7, r7, y7, st7, n7⟩ => ?_
    have I7' := I7.pinned (stat n7) (T.obj _ _ st7)
    have pgr := pg.run (pins ++ pinsAt fp s7.heap) s7 _ H7 x u _ I7' r7 (step x H7 y7)
    rw [hx] at pgr
    refine thnF pgr fun _ s8 ⟨σ8, H8, I8, hw8, q8⟩ => ?_
    have ptr := pt.run _ s8 σ8 H8 _ I8 q8
    rw [hx] at ptr
    refine thnF ptr fun b s9 ⟨H9, I9, q9⟩ => ?_
    have fin : ∀ {s' : Shared} {H' : Hp}, Inv B (pins ++ pinsAt fp s7.heap) σ8 H' s' → N2 H' → ∃ m, m < n ∧ ∃ i H', Inv B pins (wipe σ2 vs2) H' s' ∧ tn i s'.heap ∧ (∀ b ∈ fp, H' b = none) ∧ W i m H' := fun {s' H'} I' nx => by
      obtain ⟨m', hm, w'⟩ := hN2 H' nx
      have pin' : ∀ b ∈ fp, ∀ o, s7.heap.get? b = some o → s'.heap.get? b = some o ∧ H' b = none := fun b hb o e =>
        let z := I'.pin (b, o) (List.mem_append_right _ (List.mem_append_right _ (mem_pinsAt hb e)))
        ⟨z.1, z.2.1⟩
      refine ⟨m', hm, i + 1, H', (I'.unpinned (pins := pins)).weak (by rw [← hw8, wipe_length]) (fun j v e => ?_), T.keep _ _ _ st7 fun b hb o e => (pin' b hb o e).1, fun b hb => ?_, w'⟩
      · rw [← hw8] at e
        exact (wipe_some e).1
      · obtain ⟨o, e, _⟩ := T.obj _ _ st7 b hb
        exact (pin' b hb o e).2
    cases b with
    | false =>
      simp only [Bool.false_eq_true, if_false] at q9 ⊢
      exact fin I9 q9
    | true =>
      simp only [if_true] at q9 ⊢
      have per := pe.run _ s9 σ8 H9 _ I9 q9
      rw [hx] at per
      refine thnF per fun z s10 ⟨yv, H10, I10, r10, acc, hD10, hz10, nx⟩ => ?_
      exact app_ok I10 hD10 hz10 r10 fun s11 I11 => fin I11 nx
theorem wipe_get2 (σ : L2.St) : ∀ (vs : List Nat) (j : Nat), (wipe σ vs)[j]? = if j ∈ vs then (σ[j]?).map fun _ => none else σ[j]?
  | [], j => by simp [wipe]
  | v :: vs, j => by
    unfold wipe
    rw [List.getElem?_set, wipe_get2 σ vs j, wipe_length]
    by_cases h : v = j
    · subst h
      rw [if_pos rfl]
      by_cases hl : v < σ.length
      · rw [if_pos hl, if_pos (List.mem_cons_self ..), List.getElem?_eq_getElem hl]; rfl
      · rw [if_neg hl, if_pos (List.mem_cons_self ..), List.getElem?_eq_none (by omega)]; rfl
    · rw [if_neg h]
      by_cases h2 : j ∈ vs
      · rw [if_pos h2, if_pos (List.mem_cons_of_mem _ h2)]
      · rw [if_neg h2, if_neg (fun z => (List.mem_cons.mp z).elim (fun e => h e.symm) h2)]
theorem wipe_sub {σ : L2.St} {vs vs2 : List Nat} (h : ∀ v ∈ vs2, v ∈ vs) : wipe (wipe σ vs2) vs = wipe σ vs := by
  refine List.ext_getElem? fun j => ?_
  rw [wipe_get2, wipe_get2, wipe_get2]
  by_cases h1 : j ∈ vs
  · rw [if_pos h1, if_pos h1]
    split
    · cases σ[j]? <;> rfl
    · rfl
  · rw [if_neg h1, if_neg h1, if_neg fun z => h1 (h j z)]
end Fl
end

section
set_option Elab.async false
set_option linter.all false
set_option maxRecDepth 100000
set_option autoImplicit false
/-! Fl, part 6: dicts; an own object that stands still from here on; split; local callees. -/
namespace Fl
open PySem PySem.Spec PyProof.Rows L2
/-! ### an own object stands still from here on -/
section
variable {mg : Mg} {F : Fr} {G G' : Hp} {ρ : Env} {σ : L2.St} {H H' : Hp}
theorem Rel.frzJ {j : Nat} {w : Dv} {d : D} {a : Addr} {x0 : HO} (R : Rel mg F G ρ σ H) (e : ρ[j]? = some (some w)) (hp : w.isP = false) (hio : w.io = false) (s : σ[j]? = some (some (.ref a)))
    (h1 : H' a = some x0) (h2 : ∀ b, b ≠ a → H' b = H b) (nx : ∀ fs, x0 ≠ .xd fs) (r : ∀ G', Same G G' → G' a = some x0 → Rp mg G' (.ref a) d) :
    Rel mg F (upd G a x0) (ρ.set j (some (.p d))) σ H' ∧ Same G (upd G a x0) := by
  obtain ⟨a', k1, k2, k3, k4, _⟩ := R.own j w e hp
  rw [s] at k1
  cases k1
  have f0 : F.H0 a = none := k4 hio
  have sG : Same G (upd G a x0) := fun c x q => by rw [upd_ne (fun z => by rw [z, k2] at q; cases q)]; exact q
  have hl : j < ρ.length := (List.getElem?_eq_some_iff.mp e).1
  have hx : ∀ fs, H a ≠ some (.xd fs) := own_notX k3
  have old : ∀ (i : Nat) (u : Dv), (ρ.set j (some (.p d)))[i]? = some (some u) → u.isP = false → i ≠ j ∧ ρ[i]? = some (some u) := fun i u q p => by
    by_cases hi : j = i
    · subst hi
      rw [List.getElem?_set_self hl] at q
      cases q; cases p
    · rw [List.getElem?_set_ne hi] at q
      exact ⟨fun z => hi z.symm, q⟩
  refine ⟨⟨by rw [List.length_set]; exact R.len, fun c x q => ?_, R.g0.trans sG, fun c o z n => ?_, fun c n z => ?_, fun i d' q => ?_, fun i u q p => ?_, fun i k u v b hne q1 q2 p1 p2 s1 s2 => ?_, fun i b hi => ?_, fun c z => ?_⟩, sG⟩
  · by_cases h : c = a
    · subst h; rw [upd_same] at q; cases q; exact h1
    · rw [upd_ne h] at q; rw [h2 c h]; exact R.sub _ _ q
  · rw [h2 c (fun y => by rw [y, f0] at z; cases z)]
    exact R.h0 c o z n
  · rw [upd_ne (fun y => n (by rw [y]; exact f0))]
    exact R.sep c n z
  · by_cases hi : j = i
    · subst hi
      rw [List.getElem?_set_self hl] at q
      cases q
      exact ⟨_, s, r _ sG upd_same⟩
    · rw [List.getElem?_set_ne hi] at q
      obtain ⟨v, q1, q2⟩ := R.pure i d' q
      exact ⟨v, q1, q2.mono sG⟩
  · obtain ⟨hi, q'⟩ := old i u q p
    obtain ⟨c, g1, g2, g3, g4, g5⟩ := R.own i u q' p
    have hne : c ≠ a := fun z => by subst z; exact R.dist i j u w c hi q' e p hp g1 s
    refine ⟨c, g1, by rw [upd_ne hne]; exact g2, ?_, g4, g5⟩
    cases u with
    | p _ => exact g3
    | x => exact g3
    | o _ ds => obtain ⟨xs, q1, q2⟩ := g3; exact ⟨xs, by rw [h2 c hne]; exact q1, q2.mono sG⟩
    | k _ ds => obtain ⟨xs, q1, q2⟩ := g3; exact ⟨xs, by rw [h2 c hne]; exact q1, KvA.mono sG q2⟩
  · exact R.dist i k u v b hne (old i u q1 p1).2 (old k v q2 p2).2 p1 p2 s1 s2
  · obtain ⟨g1, w', g2, g3, g4⟩ := R.ios i b hi
    have hij : j ≠ i := fun z => by subst z; rw [e] at g2; cases g2; rw [hio] at g4; cases g4
    exact ⟨g1, w', by rw [List.getElem?_set_ne hij]; exact g2, g3, g4⟩
  · obtain ⟨⟨g1, g2⟩, g3⟩ := R.fix c z
    have hij : j ≠ c.slot := fun y => by subst y; rw [e] at g2; cases g2; cases hp
    refine ⟨⟨g1, by rw [List.getElem?_set_ne hij]; exact g2⟩, fun p hp' => ?_⟩
    obtain ⟨m1, m2, m3⟩ := g3 p hp'
    have hpa : p.1 ≠ a := fun y => hx _ (by rw [← y]; exact m1)
    exact ⟨by rw [h2 _ hpa]; exact m1, by rw [upd_ne hpa]; exact m2, m3.mono sG⟩
end
/-- the slot's own object becomes a tree ahead of m -/
def frzS (j : Nat) (m : M Fw) : M Fw := fun ρ => match ρ[j]? with
  | some (some (.o false ds)) => m (ρ.set j (some (.p (.lst ds))))
  | some (some (.k false kvs)) => m (ρ.set j (some (.p (.dct kvs))))
  | _ => .no
def tFrzS (t : TS) : TS := fun D σ H => t D σ H ∨ ∃ d u, H d = some u ∧ Mut (some u) ∧ ∀ od, t D σ (upd H d (.frz od u))
theorem ps_frz {X : Cx} {st : Stmt} {t : TS} (h : PS X st t) : PS X st (tFrzS t) := by
  refine ⟨fun pins s σ H D I hw => ?_⟩
  rcases hw with hw | ⟨d, u, hd, mu, hw⟩
  · exact h.run pins s σ H D I hw
  · obtain ⟨od, I1⟩ := I.lock hd mu
    exact h.run pins s σ _ D I1 (hw od)
section
variable {Φ : Fam}
theorem FPost.anti {mg : Mg} {F : Fr} {G G1 : Hp} {D : Ends} {fl : Fw} {ρ' : Env} (s : Same G G1) (h : FPost mg F G D fl ρ') : FPost mg F G1 D fl ρ' := h.mono s
theorem ss_frz {st : Stmt} {m : M Fw} (j : Nat) (h : SS Φ st m) : SS Φ st (frzS j m) := by
  obtain ⟨t, p, h⟩ := h
  refine ⟨tFrzS t, fun i => ps_frz (p i), fun F G ρ σ H D R s => ?_⟩
  unfold frzS at s
  split at s
  · rename_i ds e
    obtain ⟨a, k1, k2, ⟨xs, k3, k4⟩, _⟩ := R.own j _ e rfl
    obtain ⟨R2, sG⟩ := R.frzJ (H' := H) (d := .lst ds) (x0 := .lst xs) e rfl rfl k1 k3 (fun _ _ => rfl) (fun fs z => by cases z) fun G' s' g => .lst g (k4.mono s')
    exact .inl (h F _ _ σ H D R2 (s.imp (fun fl ρ' z => z.mono sG) fun _ _ z => z))
  · rename_i kvs e
    obtain ⟨a, k1, k2, ⟨xs, k3, k4⟩, _⟩ := R.own j _ e rfl
    refine .inr ⟨a, _, k3, trivial, fun od => ?_⟩
    obtain ⟨R2, sG⟩ := R.frzJ (H' := upd H a (.frz od (.dK xs))) (d := .dct kvs) (x0 := .frz od (.dK xs)) e rfl rfl k1 upd_same (fun b hb => upd_ne hb) (fun fs z => by cases z) fun G' s' g => .dct g (KvA.rk (KvA.mono s' k4))
    exact h F _ _ σ _ D R2 (s.imp (fun fl ρ' z => z.mono sG) fun _ _ z => z)
  · exact s.elim
/-! ### {} -/
theorem so_dict0 {pos : Pos} : SO Φ (.Dict [] [] pos) (pureM (.k false [])) := by
  refine ⟨tDNewK, fun i => pe_dnewK, fun F G ρ σ H Q R s => fun p hp => ?_⟩
  obtain ⟨R2, N⟩ := R.new hp (w := .k false []) (o := .dK []) rfl rfl ⟨[], upd_same, .nil⟩
  exact s G _ p R2 Same.rfl N
/-! ### d[k] = v, d own -/
def isK (ρ : Env) (j : Nat) : Bool := match ρ[j]? with
  | some (some (.k _ _)) => true
  | _ => false
theorem isK_get {ρ : Env} {j : Nat} (h : isK ρ j = true) : ∃ f kvs, ρ[j]? = some (some (.k f kvs)) := by
  unfold isK at h
  split at h
  · exact ⟨_, _, by assumption⟩
  · cases h
def setKM (j : Nat) (m mk : M D) : M Fw := bindM m fun d ρ => if isK ρ j = true then bindM mk (fun e ρ' => match ρ'[j]?, keyF e with
  | some (some (.k f kvs)), some k => if kvs.length < sizeLine then .ok .nx (ρ'.set j (some (.k f (kvPut kvs k d)))) else .no
  | _, _ => .no) ρ else .no
theorem ss_setK {j : Nat} {x : Str} {e ke : Expr} {p1 p2 pos : Pos} {m mk : M D} (hN : Φ.N[j]? = some x) (hv : Vis Φ.sc x) (h : SE Φ e m) (hk : SE Φ ke mk) (hd : (x == ("__debug__" : Str)) = false := by decide) (hcd : (x == ("__classdict__" : Str)) = false := by decide)
    (hs : ∀ env, swapsWith e (some (.Subscript (.Name x p1) ke p2)) pos.line env = pure false := by intro _; first | rfl | with_unfolding_all rfl) :
    SS Φ (.Assign [.Subscript (.Name x p1) ke p2] e pos) (setKM j m mk) := by
  obtain ⟨t, q, h⟩ := h
  obtain ⟨tk, qk, hk⟩ := hk
  refine ⟨sDPut (tVar j) tk t, fun i => ps_dput (by have := Φ.hu i; omega) (pe_var (Φ.nx hN i) (Φ.vis hv i) hd hcd) (qk i) (q i) (hs _), fun F G ρ σ H D R s => ?_⟩
  refine h F G ρ σ H _ R (s.bind.imp (fun d ρ1 q G1 H1 v R1 s1 r => ?_) fun _ _ z => z)
  split at q
  · rename_i ho
    obtain ⟨f, ds, e⟩ := isK_get ho
    obtain ⟨a, k1, k2, _, _⟩ := R1.own j _ e rfl
    refine ⟨_, k1, ?_⟩
    refine hk F G1 ρ1 σ H1 _ R1 (q.bind.imp (fun kd ρ2 q G2 H2 w R2 s2 r2 => ?_) fun _ _ z => z)
    split at q
    · rename_i f1 kvs1 k e1 ek
      obtain ⟨a1, g1, g2, ⟨vs1, g3, g4⟩, _⟩ := R2.own j _ e1 rfl
      rw [k1] at g1
      cases g1
      have rk := KvA.rk g4
      split at q
      · rename_i hz
        refine ⟨a, _, rfl, .inl ⟨vs1, k, g3, key_v r2 ek, by rw [rk.len]; exact hz, rfl⟩, ?_⟩
        exact q G2 σ _ (R2.mut e1 rfl k1 rfl rfl ⟨_, upd_same, (rk.put (r.mono s2)).kv⟩) (s1.trans s2)
      · exact q.elim
    · exact q.elim
  · exact q.elim
/-! ### reading an own dict -/
def ixKM (j : Nat) (mk : M D) : M D := fun ρ => if isK ρ j = true then bindM mk (fun e ρ' => match ρ'[j]? with
  | some (some (.k _ kvs)) => match (keyF e).bind (kvD kvs) with
    | some d => .ok d ρ'
    | none => .no
  | _ => .no) ρ else .no
theorem se_ixK {j : Nat} {x : Str} {b : Expr} {pos p2 : Pos} {mb : M D} (hN : Φ.N[j]? = some x) (hv : Vis Φ.sc x) (hb : SE Φ b mb) (hs : PlainIx b := by exact fun _ _ => rfl) (hd : (x == ("__debug__" : Str)) = false := by decide) (hcd : (x == ("__classdict__" : Str)) = false := by decide) :
    SE Φ (.Subscript (.Name x p2) b pos) (ixKM j mb) := by
  obtain ⟨tb, pb, hb⟩ := hb
  refine ⟨tOp rIxK (tVar j) tb, fun i => pe_ix (ix_dict (Φ.hu i)) (pe_var (Φ.nx hN i) (Φ.vis hv i) hd hcd) (pb i) hs, fun F G ρ σ H Q R s => ?_⟩
  unfold ixKM at s
  split at s
  · rename_i ho
    obtain ⟨f, ds, e⟩ := isK_get ho
    obtain ⟨a, h1, h2, h3, _⟩ := R.own j _ e rfl
    refine ⟨_, h1, ?_⟩
    refine hb F G ρ σ H _ R (s.bind.imp (fun d ρ1 q G1 H1 y R1 s1 r => ?_) fun _ _ z => z)
    split at q
    · rename_i f1 kvs1 e1
      obtain ⟨a1, g1, g2, ⟨vs, g3, g4⟩, _⟩ := R1.own j _ e1 rfl
      rw [h1] at g1
      cases g1
      split at q
      · rename_i d2 e2
        obtain ⟨k, ek, hv⟩ := Option.bind_eq_some_iff.mp e2
        rcases (KvA.rk g4).val k with ⟨m1, m2⟩ | ⟨v, d3, m1, m2, m3⟩
        · rw [m2] at hv; cases hv
        · rw [m2] at hv
          cases hv
          exact ⟨a, _, k, v, rfl, .inl g3, key_v r ek, m1, q G1 H1 v R1 s1 m3⟩
      · exact q.elim
    · exact q.elim
  · exact s.elim
/-- k in d -/
def inKM (neg : Bool) (mk : M D) (j : Nat) : M D := bindM mk fun e ρ => match ρ[j]?, keyF e with
  | some (some (.k _ kvs)), some k => .ok (.bl (if neg = true then !(kvD kvs k).isSome else (kvD kvs k).isSome)) ρ
  | _, _ => .no
theorem he_inK {mg : Mg} {W : WX} {neg : Bool} {j : Nat} {tk : TE} {mk : M D} (hk : HE mg W tk mk) : HE mg W (tOp (rInK neg) tk (tVar j)) (inKM neg mk j) := by
  intro F G ρ σ H Q R s
  refine hk F G ρ σ H _ R (s.bind.imp (fun d ρ1 q G1 H1 y R1 s1 r => ?_) fun _ _ z => z)
  split at q
  · rename_i f kvs k e ek
    obtain ⟨a, g1, g2, ⟨vs, g3, g4⟩, _⟩ := R1.own j _ e rfl
    refine ⟨_, g1, a, vs, k, rfl, .inl g3, key_v r ek, ?_⟩
    have es : (valV vs k).isSome = (kvD kvs k).isSome := by
      rcases (KvA.rk g4).val k with ⟨m1, m2⟩ | ⟨v, d3, m1, m2, _⟩ <;> rw [m1, m2] <;> rfl
    rw [es]
    exact q G1 H1 _ R1 s1 (.bl _)
  · exact q.elim
theorem se_inK {j : Nat} {x : Str} {b : Expr} {pos p2 : Pos} {mb : M D} (hN : Φ.N[j]? = some x) (hv : Vis Φ.sc x) (hb : SE Φ b mb) (hd : (x == ("__debug__" : Str)) = false := by decide) (hcd : (x == ("__classdict__" : Str)) = false := by decide) :
    SE Φ (.Compare b [.In] [.Name x p2] pos) (inKM false mb j) := by
  obtain ⟨tb, pb, hb⟩ := hb
  exact ⟨_, fun i => pe_cmpR (op_inK (Φ.hu i)) (pb i) (pe_var (Φ.nx hN i) (Φ.vis hv i) hd hcd) (by rfl), he_inK hb⟩
theorem se_inKn {j : Nat} {x : Str} {b : Expr} {pos p2 : Pos} {mb : M D} (hN : Φ.N[j]? = some x) (hv : Vis Φ.sc x) (hb : SE Φ b mb) (hd : (x == ("__debug__" : Str)) = false := by decide) (hcd : (x == ("__classdict__" : Str)) = false := by decide) :
    SE Φ (.Compare b [.NotIn] [.Name x p2] pos) (inKM true mb j) := by
  obtain ⟨tb, pb, hb⟩ := hb
  exact ⟨_, fun i => pe_cmpR (op_notInK (Φ.hu i)) (pb i) (pe_var (Φ.nx hN i) (Φ.vis hv i) hd hcd) (by rfl), he_inK hb⟩
end
end Fl
end

section
set_option Elab.async false
set_option linter.all false
set_option maxRecDepth 100000
set_option autoImplicit false
/-! Fl, part 7: split, get, sorted(d), walks of a dict, displays, local callees. -/
namespace Fl
open PySem PySem.Spec PyProof.Rows L2
section
variable {Φ : Fam}
/-! ### a.split(b) -/
def splF (a b : Str) : Option Dv := if (b.length == 0) = false ∧ a.length + 2 ≤ sizeLine then some (.o false ((Txt.split a b).map D.str)) else none
def splM (mo m : M D) : M Dv := bindM mo fun d => match d with
  | .str a => bindM m fun e => match e with
    | .str b => optM (splF a b)
    | _ => noM
  | _ => noM
theorem so_split {o e : Expr} {apos pos : Pos} {mo m : M D} (ho : SE Φ o mo) (h : SE Φ e m) (hst : ∀ env, starEach [e] env = [(false, eval e env)] := by intro _; first | rfl | with_unfolding_all rfl)
    (hb : ∀ env, attributeBase o "split" env (eval o env) = eval o env := by intro _; first | rfl | with_unfolding_all rfl) (hl : (apos.endLine == pos.line) = true := by rfl) :
    SO Φ (.Call (.Attribute o "split" apos) [e] [] pos) (splM mo m) := by
  obtain ⟨to, po, ho⟩ := ho
  obtain ⟨t, p, h⟩ := h
  refine ⟨_, fun i => pe_split (po i) (p i) (hst _) (hb _) hl, fun F G ρ σ H Q R s => ?_⟩
  refine ho F G ρ σ H _ R (s.bind.imp (fun d ρ1 q G1 H1 x R1 s1 r1 => ?_) fun _ _ z => z)
  cases r1 with
  | str a =>
    refine ⟨⟨a, rfl⟩, ?_⟩
    refine h F G1 ρ1 σ H1 _ R1 (q.bind.imp (fun e' ρ2 q2 G2 H2 y R2 s2 r2 => ?_) fun _ _ z => z)
    cases r2 with
    | str b =>
      obtain ⟨w, e1, q3⟩ := q2.opt
      unfold splF at e1
      split at e1
      · rename_i hz
        cases e1
        refine ⟨a, b, rfl, rfl, hz.1, hz.2, fun p hp => ?_⟩
        obtain ⟨R3, N⟩ := R2.new hp (w := .o false ((Txt.split a b).map D.str)) (o := .lst ((Txt.split a b).map V.str)) rfl rfl ⟨_, upd_same, RpA.ofStrs _⟩
        exact q3 G2 _ p R3 (s1.trans s2) N
      · cases e1
    | _ => exact q2.elim
  | _ => exact q.elim
/-! ### d.get(k, x) -/
def getF (d e : D) : Option (Option D) := match d with
  | .dct kvs => (keyF e).map (kvD kvs)
  | _ => none
def getM (md mk mx : M D) : M D := bindM md fun d => bindM (optM (match d with | .dct kvs => some kvs | _ => none)) fun kvs => bindM mk fun e => bindM mx fun x => optM ((keyF e).map fun k => (kvD kvs k).getD x)
theorem val_getD {mg : Mg} {G : Hp} {vs : List (Key × V)} {kvs : List (Key × D)} (r : RpK mg G vs kvs) (k : Key) {v : V} {d : D} (rv : Rp mg G v d) : Rp mg G ((valV vs k).getD v) ((kvD kvs k).getD d) := by
  rcases r.val k with ⟨m1, m2⟩ | ⟨v', d3, m1, m2, m3⟩
  · rw [m1, m2]; exact rv
  · rw [m1, m2]; exact m3
theorem se_get2 {o e f : Expr} {apos pos : Pos} {mo m mx : M D} (ho : SE Φ o mo) (h : SE Φ e m) (hx : SE Φ f mx)
    (mm : ∀ X : Cx, M2 X o "get" apos e f pos := by intro X; exact ⟨by first | rfl | with_unfolding_all rfl, by first | rfl | with_unfolding_all rfl, by rfl, by first | rfl | with_unfolding_all rfl⟩) :
    SE Φ (.Call (.Attribute o "get" apos) [e, f] [] pos) (getM mo m mx) := by
  obtain ⟨to, po, ho⟩ := ho
  obtain ⟨t, p, h⟩ := h
  obtain ⟨tx, px, hx⟩ := hx
  refine ⟨_, fun i => pe_dget2 (by have := Φ.hu i; omega) (po i) (p i) (px i) (mm _), fun F G ρ σ H Q R s => ?_⟩
  refine ho F G ρ σ H _ R (s.bind.imp (fun d ρ1 q G1 H1 x R1 s1 r1 => ?_) fun _ _ z => z)
  obtain ⟨kvs, ek, qk⟩ := q.bind.opt
  cases r1 with
  | dct e2 r2 =>
    cases ek
    refine ⟨_, rfl, .inl ⟨_, .inr ⟨_, R1.sub _ _ e2⟩⟩, ?_⟩
    refine h F G1 ρ1 σ H1 _ R1 (qk.bind.imp (fun e' ρ2 q2 G2 H2 y R2 s2 r3 => ?_) fun _ _ z => z)
    refine hx F G2 ρ2 σ H2 _ R2 (q2.bind.imp (fun x' ρ3 q3 G3 H3 z R3 s3 r4 => ?_) fun _ _ z => z)
    obtain ⟨d4, e4, q4⟩ := q3.opt
    obtain ⟨k, ek, rfl⟩ := Option.map_eq_some_iff.mp e4
    exact ⟨_, .inl ⟨_, k, .inr ⟨_, R3.sub _ _ (s3 _ _ (s2 _ _ e2))⟩, key_v r3 ek, rfl⟩, q4 G3 H3 _ R3 (s1.trans (s2.trans s3)) (val_getD (r2.mono (s2.trans s3)) k r4)⟩
  | _ => cases ek
theorem se_get1 {o e : Expr} {apos pos : Pos} {mo m : M D} (ho : SE Φ o mo) (h : SE Φ e m)
    (mm : ∀ X : Cx, M1 X o "get" apos e pos := by intro X; exact ⟨by first | rfl | with_unfolding_all rfl, by first | rfl | with_unfolding_all rfl, by rfl, by first | rfl | with_unfolding_all rfl⟩) :
    SE Φ (.Call (.Attribute o "get" apos) [e] [] pos) (getM mo m (pureM .non)) := by
  obtain ⟨to, po, ho⟩ := ho
  obtain ⟨t, p, h⟩ := h
  refine ⟨_, fun i => pe_dget1 (by have := Φ.hu i; omega) (po i) (p i) (mm _), fun F G ρ σ H Q R s => ?_⟩
  refine ho F G ρ σ H _ R (s.bind.imp (fun d ρ1 q G1 H1 x R1 s1 r1 => ?_) fun _ _ z => z)
  obtain ⟨kvs, ek, qk⟩ := q.bind.opt
  cases r1 with
  | dct e2 r2 =>
    cases ek
    refine ⟨_, rfl, .inl ⟨_, .inr ⟨_, R1.sub _ _ e2⟩⟩, ?_⟩
    refine h F G1 ρ1 σ H1 _ R1 (qk.bind.imp (fun e' ρ2 q2 G2 H2 y R2 s2 r3 => ?_) fun _ _ z => z)
    have q3 := q2.bind
    obtain ⟨d4, e4, q4⟩ := Sat.opt (show Sat (optM _ ρ2) _ _ from q3)
    obtain ⟨k, ek, rfl⟩ := Option.map_eq_some_iff.mp e4
    exact ⟨_, .inl ⟨_, k, .inr ⟨_, R2.sub _ _ (s2 _ _ e2)⟩, key_v r3 ek, rfl⟩, q4 G2 H2 _ R2 (s1.trans s2) (val_getD (r2.mono s2) k .non)⟩
  | _ => cases ek
/-- .. of an own dict -/
def getKM (j : Nat) (mk mx : M D) : M D := fun ρ => if isK ρ j = true then bindM mk (fun e => bindM mx fun x ρ' => match ρ'[j]?, keyF e with
  | some (some (.k _ kvs)), some k => .ok ((kvD kvs k).getD x) ρ'
  | _, _ => .no) ρ else .no
theorem se_getK {j : Nat} {x : Str} {e f : Expr} {apos pos p2 : Pos} {m mx : M D} (hN : Φ.N[j]? = some x) (hv : Vis Φ.sc x) (h : SE Φ e m) (hx : SE Φ f mx) (hd : (x == ("__debug__" : Str)) = false := by decide) (hcd : (x == ("__classdict__" : Str)) = false := by decide)
    (mm : ∀ X : Cx, M2 X (.Name x p2) "get" apos e f pos := by intro X; exact ⟨by first | rfl | with_unfolding_all rfl, by first | rfl | with_unfolding_all rfl, by rfl, by first | rfl | with_unfolding_all rfl⟩) :
    SE Φ (.Call (.Attribute (.Name x p2) "get" apos) [e, f] [] pos) (getKM j m mx) := by
  obtain ⟨t, p, h⟩ := h
  obtain ⟨tx, px, hx⟩ := hx
  refine ⟨_, fun i => pe_dget2 (by have := Φ.hu i; omega) (pe_var (Φ.nx hN i) (Φ.vis hv i) hd hcd) (p i) (px i) (mm _), fun F G ρ σ H Q R s => ?_⟩
  unfold getKM at s
  split at s
  · rename_i ho
    obtain ⟨b, kvs, e0⟩ := isK_get ho
    obtain ⟨a, h1, h2, ⟨vs0, h3, _⟩, _⟩ := R.own j _ e0 rfl
    refine ⟨_, h1, _, rfl, .inl ⟨_, .inl h3⟩, ?_⟩
    refine h F G ρ σ H _ R (s.bind.imp (fun e' ρ2 q2 G2 H2 y R2 s2 r3 => ?_) fun _ _ z => z)
    refine hx F G2 ρ2 σ H2 _ R2 (q2.bind.imp (fun x' ρ3 q3 G3 H3 z R3 s3 r4 => ?_) fun _ _ z => z)
    split at q3
    · rename_i b1 kvs1 k e1 ek
      obtain ⟨a1, g1, g2, ⟨vs, g3, g4⟩, _⟩ := R3.own j _ e1 rfl
      rw [h1] at g1
      cases g1
      exact ⟨_, .inl ⟨_, k, .inl g3, key_v r3 ek, rfl⟩, q3 G3 H3 _ R3 (s2.trans s3) (val_getD (KvA.rk g4) k r4)⟩
    · exact q3.elim
  · exact s.elim
/-! ### for k in d, for k, v in d.items() -/
def keyD : Key → D
  | .inl i => .int i
  | .inr s => .str s
theorem keyD_rp {mg : Mg} {G : Hp} (k : Key) : Rp mg G (kV k) (keyD k) := by
  cases k with
  | inl i => exact .int i
  | inr s => exact .str s
def keysF : D → Option (List D)
  | .dct kvs => some (kvs.map fun q => keyD q.1)
  | _ => none
def itemsK : D → Option (List D)
  | .dct kvs => some (kvs.map fun q => .tup [keyD q.1, q.2])
  | _ => none
theorem iter_keysD {mg : Mg} {G : Hp} {a : Addr} {o : Obj} {vs : List (Key × V)} {kvs : List (Key × D)} (e : G a = some (.frz o (.dK vs))) (r : RpK mg G vs kvs) : IterOk mg G (Itk a o vs) (kvs.map fun q => keyD q.1) where
  go := fun i H s hi => ⟨s _ _ e, by rw [r.len]; simpa using hi⟩
  stop := fun i H s hi => ⟨s _ _ e, by rw [r.len]; simpa using hi⟩
  yld := fun i H x H' d s hy hd G' sg sh => by
    obtain ⟨rfl, k, v, e1, rfl⟩ := hy
    rw [List.getElem?_map] at hd
    obtain ⟨⟨k2, d2⟩, e2, rfl⟩ := Option.map_eq_some_iff.mp hd
    obtain ⟨v2, e3, _⟩ := r.get e2
    rw [e1] at e3
    cases e3
    exact ⟨G', Ext.refl sh, keyD_rp _⟩
theorem iter_itemsD {mg : Mg} {G : Hp} {a : Addr} {o : Obj} {vs : List (Key × V)} {kvs : List (Key × D)} (e : G a = some (.frz o (.dK vs))) (r : RpK mg G vs kvs) : IterOk mg G (Iti a o vs) (kvs.map fun q => .tup [keyD q.1, q.2]) where
  go := fun i H s hi => ⟨s _ _ e, by rw [r.len]; simpa using hi⟩
  stop := fun i H s hi => ⟨s _ _ e, by rw [r.len]; simpa using hi⟩
  yld := fun i H x H' d s hy hd G' sg sh => by
    obtain ⟨T, k, v, e1, rfl, hT, rfl⟩ := hy
    rw [List.getElem?_map] at hd
    obtain ⟨⟨k2, d2⟩, e2, rfl⟩ := Option.map_eq_some_iff.mp hd
    obtain ⟨v2, e3, r3⟩ := r.get e2
    rw [e1] at e3
    cases e3
    have xt := Ext.alloc sh hT (.tup [kV k, v])
    exact ⟨_, xt, .tup upd_same (.cons (keyD_rp _) (.cons (r3.mono (sg.trans xt.hG)) .nil))⟩
theorem si_keys {tg e : Expr} {m : M D} (h : SE Φ e m) : SI Φ tg e (bindM m fun d => optM (keysF d)) := by
  obtain ⟨t, p, h⟩ := h
  refine ⟨iKeys t, fun i => pi_keys (p i), fun F G ρ σ H Q R s => ?_⟩
  refine h F G ρ σ H _ R (s.bind.imp (fun d ρ1 q G1 H1 v R1 s1 r => ?_) fun _ _ z => z)
  obtain ⟨ds, e1, q⟩ := q.opt
  cases r with
  | dct e2 r2 => cases e1; exact ⟨_, _, rfl, .inl ⟨_, R1.sub _ _ e2, q G1 H1 _ R1 s1 (iter_keysD e2 r2)⟩⟩
  | _ => cases e1
theorem si_items {elts : List Expr} {kk : Nat} {tpos : Pos} {e : Expr} {apos pos : Pos} {m : M D} (h : SE Φ e m) (hb : ∀ env, attributeBase e "items" env (eval e env) = eval e env := by intro _; first | rfl | with_unfolding_all rfl) (hl : (apos.endLine == pos.line) = true := by rfl) :
    SI Φ (.Tuple elts kk tpos) (.Call (.Attribute e "items" apos) [] [] pos) (bindM m fun d => optM (itemsK d)) := by
  obtain ⟨t, p, h⟩ := h
  refine ⟨iItems t, fun i => pi_items (p i) (hb _) hl, fun F G ρ σ H Q R s => ?_⟩
  refine h F G ρ σ H _ R (s.bind.imp (fun d ρ1 q G1 H1 v R1 s1 r => ?_) fun _ _ z => z)
  obtain ⟨ds, e1, q⟩ := q.opt
  cases r with
  | dct e2 r2 => cases e1; exact ⟨_, _, _, rfl, R1.sub _ _ e2, q G1 H1 _ R1 s1 (iter_itemsD e2 r2)⟩
  | _ => cases e1
/-! ### x(e, ..), x a local name that holds one of several defs -/
def noexM {α : Type} (m : M α) : M α := fun ρ => match m ρ with
  | .ok a ρ' => .ok a ρ'
  | _ => .no
def callLM (j : Nat) (T : List (Str × (List Dv → R))) (ma : M (List Arg)) : M Dv := fun ρ => match ρ[j]? with
  | some (some (.p (.fn f))) => match T.lookup f with
    | some g => noexM (callM g ma) ρ
    | none => .no
  | _ => .no
theorem sx_callL {k j : Nat} {x : Str} {T : List (Str × (List Dv → R))} {p pos : Pos} {e : Expr} {es : List Expr} {m : M (List Arg)} (hN : Φ.N[j]? = some x) (hv : Vis Φ.sc x) (F : ∀ f g, T.lookup f = some g → Fn Φ.P Φ.w Φ.K Φ.mg Φ.base k f g) (hk : k ≤ Φ.k) (h : SR Φ (e :: es) m)
    (hd : (x == ("__debug__" : Str)) = false := by decide) (hcd : (x == ("__classdict__" : Str)) = false := by decide)
    (hst : ∀ env, starEach (e :: es) env = (false, eval e env) :: starEach es env := by intro _; first | rfl | with_unfolding_all rfl) (hs : ∀ pos env, (backTo pos (starEach es env)).any (fun x => x.1) = false := by intro _ _; first | rfl | with_unfolding_all rfl) (hc : Φ.cal = true := by rfl) :
    SX Φ (.Call (.Name x p) (e :: es) [] pos) (callLM j T m) := by
  obtain ⟨t, q, h⟩ := h
  refine ⟨fun σ H Q => ∃ f g a, T.lookup f = some g ∧ Φ.mg f = some (.ref a) ∧ tCallL j a (SpM Φ.mg g) [] (fun _ _ _ => False) t σ H Q, fun i => ⟨fun pins s σ H Q I hw => ?_⟩, fun F0 G ρ σ H Q R s => ?_⟩
  · obtain ⟨f, g, a, e1, e2, hw⟩ := hw
    obtain ⟨fa, fd, ps, h1, h2, h3, h4⟩ := F f g e1
    rw [h1] at e2
    cases e2
    have F' : FnOk (Φ.X i).prog (Φ.X i).w (Φ.X i).K (Φ.X i).mg (Φ.X i).base (CX (Φ.X i).prog (Φ.X i).w) k a fd ps (SpM Φ.mg g) := by
      rw [Φ.hP i, Φ.hw i, Φ.hK i, Φ.hmg i, Φ.hbase i]; exact h4
    exact (pe_callL (i := j) F' ((Φ.rm hc i).mono hk) (Φ.nx hN i) (Φ.vis hv i) (by rw [Φ.hK i]; exact h2) (by rw [Φ.hK i]; exact h3) .nil (fun _ _ _ _ _ _ _ z => by obtain ⟨_, _, _, _, _, _, _, _, _, _, _, _, y⟩ := z; exact y.elim) (q i) hd hcd (hst _) (hs _ _)).run pins s σ H Q I hw
  · unfold callLM at s
    split at s
    · rename_i f ef
      split at s
      · rename_i g eg
        obtain ⟨v, k1, k2⟩ := R.pure j _ ef
        cases k2 with
        | fn e2 =>
          refine ⟨f, g, _, eg, e2, k1, ?_⟩
          unfold noexM at s
          have s' : Sat (callM g m ρ) (fun w ρ' => ∀ G' H' v, Rel Φ.mg F0 G' ρ' σ H' → Same G G' → RetN Φ.mg F0 G' ρ' σ H' v w → Q v H') (fun _ _ => False) := by
            revert s
            cases callM g m ρ with
            | ok a ρ' => exact id
            | ex c ρ' => exact id
            | no => exact id
          refine h F0 G ρ σ H _ R (s'.bind.imp (fun as ρ1 q G1 H1 vs R1 s1 av => ?_) fun _ _ z => z.elim)
          show SpM Φ.mg g (vs ++ []) H1 Q _
          rw [List.append_nil]
          exact call_core (Ex := fun _ _ => False) R1 av (fun _ _ _ _ _ e _ _ => e.elim) (q.imp (fun w ρ' z G' H' v R' s' rn => z G' H' v R' (s1.trans s') rn) fun _ _ z => z)
      · exact s.elim
    · exact s.elim
end
end Fl
end

section
set_option Elab.async false
set_option linter.all false
set_option maxRecDepth 100000
set_option autoImplicit false
/-! Fl, part 8: sorted(d). -/
namespace Fl
open PySem PySem.Spec PyProof.Rows L2
theorem collectK {prog : Program} {w : World} {A : Around} {Ex : Value → Shared → Prop} {s : Shared} {R : List Value → Shared → Prop} {d : Addr} {vs : List (Key × Value)} {ep : Nat} (hh : A.handled = none) (hd : (d == sysModules) = false) (hm : s.heap.DictAt (mixKind prog w) d vs ep) (hn : vs.length ≤ sizeLine)
    (q : ∀ (h2 : Heap) (tk : Nat) (its : List Value), (∀ b u, s.heap.get? b = some u → h2.get? b = some u) → s.heap.objs.size ≤ h2.objs.size → its.length = vs.length → (∀ (i : Nat) v, its[i]? = some v → ∃ k x, vs[i]? = some (k, x) ∧ keyIs k v = true) → R its { s with heap := h2, toks := tk }) :
    wpAny (model prog w) A (collect (.ref d)) R Ex s := by
  have hlt := hm.lt_size
  unfold collect
  apply wpAny_bind
  apply wpAny_runValue
  refine codeAny_builtin F.entry_proto_collect ?_
  rw [Around.under_plainId F.plain_proto_collect _]
  change wpAny _ A.in1 (newList [] >>= fun z => again (.builtin "list.__iadd__" ⟨[z, .ref d], []⟩)) _ _ s
  apply wpAny_bind
  refine wpAny_newObj_type ?_
  refine wpAny_pure ⟨plainId_quiet F.plain_list_iadd _, ?_⟩
  refine codeAny_builtin F.entry_list_iadd ?_
  rw [Around.under_plainId F.plain_list_iadd _]
  change wpAny _ A.in1 (Builtin.List.listExtendWith (.ref s.heap.objs.size) (.ref d) (.ref s.heap.objs.size)) _ _ _
  have hS₁ : (s.heap.push { cls := .type "list", data := .seq ([] : List Value).toArray }).get? s.heap.objs.size = some { cls := .type "list", data := .seq #[] } := Heap.get?_push_size _ rfl
  have key := PySem.W.kdl_extend (prog := prog) (w := w) (A := A) (s := { s with heap := s.heap.push { cls := .type "list", data := .seq ([] : List Value).toArray } })
    (R := fun (q : Result) (s' : Shared) => ∃ (h' : Heap) (tk : Nat) (acc' : Array Value) (c' : Nat), q = .ok (.ret (.ref s.heap.objs.size)) ∧ s' = { s with heap := h', toks := tk } ∧
      (∀ b o, s.heap.get? b = some o → h'.get? b = some o) ∧ h'.get? s.heap.objs.size = some { cls := .type "list", dict := none, data := .seq acc' c', slots := #[] } ∧ ItemsOf (fun i v => ∃ k x, vs[i]? = some (k, x) ∧ (mixKind prog w).is k v = true) acc' vs.length)
    (PySem.W.kdl_dict (knd := mixKind prog w) (kvs := vs) (ep := ep) hd) hh (hm.push _) s.heap.objs.size (Nat.ne_of_gt hlt) (Nat.ne_of_gt hlt) (.ref s.heap.objs.size) 0 hS₁
    (fun h' tk acc' c' hk hS' hacc => ⟨h', tk, acc', c', rfl, rfl, fun b o e => hk b o (Nat.ne_of_lt (Heap.lt_size e)) (Heap.get?_push_of_some _ e), hS', hacc⟩) hn
  have back : ∀ {f : Flow} {s' : Shared}, (∃ (h' : Heap) (tk : Nat) (acc' : Array Value) (c' : Nat), (.ok f : Result) = .ok (.ret (.ref s.heap.objs.size)) ∧ s' = { s with heap := h', toks := tk } ∧
      (∀ b o, s.heap.get? b = some o → h'.get? b = some o) ∧ h'.get? s.heap.objs.size = some { cls := .type "list", dict := none, data := .seq acc' c', slots := #[] } ∧ ItemsOf (fun i v => ∃ k x, vs[i]? = some (k, x) ∧ (mixKind prog w).is k v = true) acc' vs.length) →
      f = .ret (.ref s.heap.objs.size) ∧ wpAny (model prog w) A (match Value.ref s.heap.objs.size with
      | Value.ref z => do
        match (← load z).data with
          | Data.seq ys _ => pure ys.toList
          | _ => unsupported "internal:collect"
      | _ => unsupported "internal:collect") R Ex s' := by
    rintro f s' ⟨h', tk, acc', c', e, rfl, hk, hS', hacc⟩
    cases e
    refine ⟨rfl, ?_⟩
    change wpAny _ A (load s.heap.objs.size >>= _) _ _ _
    refine wpAny_bind (wpAny_load hS' (wpAny_pure ?_))
    change R acc'.toList _
    refine q h' tk acc'.toList hk (Nat.le_of_lt (Heap.lt_size hS')) (by rw [Array.length_toList]; exact hacc.1) fun i v e => hacc.2 i v (by rw [← Array.getElem?_toList]; exact e)
  refine wpAny_mono key (fun fin s' x => ?_) fun e s' x => ?_
  · cases fin with
    | done f =>
      obtain ⟨e, y⟩ := back x
      subst e
      exact y
    | again c₁ =>
      refine ⟨x.1, codeAny_mono x.2 fun q s₂ y => ?_⟩
      obtain ⟨h', tk, acc', c', e0, r⟩ := y
      subst e0
      exact (back ⟨h', tk, acc', c', rfl, r⟩).2
  · obtain ⟨_, _, _, _, e', _⟩ := x
    cases e'
open PySem.W in
theorem vals_of_get : ∀ {xs : List V} {us : List Value}, xs.length = us.length → (∀ (i : Nat) x u, xs[i]? = some x → us[i]? = some u → RelV x u) → Vals xs us
  | [], [], _, _ => .nil
  | [], _ :: _, h, _ => by cases h
  | _ :: _, [], h, _ => by cases h
  | x :: xs, u :: us, h, k => .cons (k 0 x u rfl rfl) (vals_of_get (by simpa using h) fun i x' u' e1 e2 => k (i + 1) x' u' (by simpa using e1) (by simpa using e2))
def rSortK : List V → Hp → VK → Prop := fun vs H Q => ∃ (a : Addr) (o : Obj) (kvs : List (Key × V)), vs = [V.ref a] ∧ H a = some (.frz o (.dK kvs)) ∧ sortOk (kvs.map fun q => keyD q.1) = true ∧
  ∀ (ys : List V) (p : Addr), (∀ (j : Nat) y d, ys[j]? = some y → (sortD (kvs.map fun q => keyD q.1))[j]? = some d → ∃ i : Nat, (kvs.map fun q => kV q.1)[i]? = some y ∧ (kvs.map fun q => keyD q.1)[i]? = some d) → ys.length = (kvs.map fun q => keyD q.1).length → H p = none → Q (.ref p) (upd H p (.lst ys))
section
open PySem.W
theorem cr_sortK {X : Cx} (hc : X.calm = true) (hu : X.A.units + 200 < cLine) : CallR X (.builtin "sorted") rSortK := by
  intro pins s σ H vs us Q I r h
  obtain ⟨a, o, kvs, rfl, hf, ok, q⟩ := h
  obtain ⟨hsm, hgd, hx, es, ep0, ws, hdt, hsz0, kv, hm⟩ := I.frzK hf
  generalize hds : (kvs.map fun q => keyD q.1) = ds at ok q
  generalize hxs : (kvs.map fun q => kV q.1) = xs at q
  have hl : xs.length = ds.length := by rw [← hds, ← hxs]; simp
  have lw : kvs.length = ws.length := Paired.length kv
  rw [Vals.ref1 r]
  unfold sortOk at ok
  simp only [Bool.and_eq_true, List.all_eq_true, decide_eq_true_eq] at ok
  obtain ⟨⟨⟨⟨ok1, ok2⟩, ok3⟩, ok4⟩, ok5⟩ := ok
  refine call_function_entry_kw kind_sorted plain_sorted entry_sorted (args_sorted1 _) ?_
  unfold Builtin.«sorted»
  refine wpAny_bind (m := checkCount "sorted" 1 1 _) (wpAny_pure ?_)
  have hwl : ws.length ≤ sizeLine := by
    have e : ds.length = kvs.length := by rw [← hds]; simp
    rw [← lw, ← e]; exact ok4
  refine wpAny_bind (collectK (I.ok.hd hc) hsm hm hwl (fun h' tk its hk hsz hlen hits => ?_))
  have rv : Vals xs its := by
    rw [← hxs]
    refine vals_of_get (by rw [List.length_map, hlen, lw]) fun i x u e1 e2 => ?_
    rw [List.getElem?_map] at e1
    obtain ⟨⟨k, v⟩, e3, rfl⟩ := Option.map_eq_some_iff.mp e1
    obtain ⟨k2, x2, e4, e5⟩ := hits i u e2
    obtain ⟨u2, e6, _⟩ := kv_get kv e3
    rw [e4] at e6
    cases e6
    exact relV_key e5
  have hil : its.length ≤ sizeLine := by rw [← rv.length, hl]; exact ok4
  have dp : ∀ (i : Nat) d, ds[i]? = some d → ∃ x, xs[i]? = some x ∧ Dp X.K H x d.py := fun i d e => by
    rw [← hds, List.getElem?_map] at e
    obtain ⟨⟨k, v⟩, e3, rfl⟩ := Option.map_eq_some_iff.mp e
    refine ⟨kV k, by rw [← hxs, List.getElem?_map, e3]; rfl, ?_⟩
    cases k with
    | inl i => exact .int _
    | inr s => exact .str _
  refine wpAny_bind (wpAny_newList ?_ (by simpa using hil))
  refine wpAny_bind (wpAny_holding ?_)
  have hL : (h'.push (seqObj "list" its.toArray 0)).get? h'.objs.size = some (seqObj "list" its.toArray 0) := Heap.get?_push_size _ rfl
  have hk2 : ∀ b o', s.heap.get? b = some o' → (h'.push (seqObj "list" its.toArray 0)).get? b = some o' := fun b o' e => Heap.get?_push_of_some _ (hk b o' e)
  have hlen2 : its.length = ds.length := by rw [← rv.length]; exact hl
  have nL : ∀ b o', s.heap.get? b = some o' → b ≠ h'.objs.size := fun b o' e => Nat.ne_of_lt (Heap.lt_size (hk b o' e))
  have rd : ∀ (i : Nat) u d, its[i]? = some u → ds[i]? = some d → ∃ as, Reads (h'.push (seqObj "list" its.toArray 0)) u d.py as ∧ h'.objs.size ∉ as := fun i u d e1 e2 => by
    obtain ⟨x, g1, g2⟩ := dp i d e2
    obtain ⟨u', g3, g4⟩ := rv.get g1
    rw [e1] at g3
    cases g3
    obtain ⟨as, k⟩ := Dp.reads I _ _ _ g2 g4
    refine ⟨as, PyProof.Rows.Reads.keeps hk2 k, fun z => ?_⟩
    obtain ⟨o', e⟩ := PyProof.On.reads_mem_get k _ z
    exact nL _ _ e rfl
  show wpAny _ _ (call (.builtin "list.sort") [.ref h'.objs.size] []) _ _ { s with heap := h'.push (seqObj "list" its.toArray 0), toks := tk }
  refine list_sort_data (s := { s with heap := h'.push (seqObj "list" its.toArray 0), toks := tk }) (enc := D.py) (bs := ds) (R := fun u d => ∃ i : Nat, its[i]? = some u ∧ ds[i]? = some d) hL (each_of hlen2 fun i u d e1 e2 => ⟨i, e1, e2⟩) (each_of hlen2 rd) ?_ ?_ ok4 ?_ fun out ho1 ho2 => ?_
  · intro d hd' e he
    obtain ⟨d0, m0, rfl⟩ := List.mem_map.mp hd'
    obtain ⟨e0, m1, rfl⟩ := List.mem_map.mp he
    exact ok2 d0 m0 e0 m1
  · rw [Bool.or_eq_true] at ok3
    rcases ok3 with ok3 | ok3
    · left
      intro d hd'
      obtain ⟨d0, m0, rfl⟩ := List.mem_map.mp hd'
      have z := List.all_eq_true.mp ok3 d0 m0
      cases d0 with
      | tup ys => cases ys with
        | nil => cases z
        | cons y ys => exact ⟨y.py, pys ys, by simp only [D.py, pys]⟩
      | _ => cases z
    · right
      intro d hd'
      obtain ⟨d0, m0, rfl⟩ := List.mem_map.mp hd'
      have z := List.all_eq_true.mp ok3 d0 m0
      cases d0 with
      | non => cases z
      | tup ys => cases z
      | fn _ => cases z
      | dct _ => cases z
      | bl _ => exact ⟨by simp [D.py], by intro ys; simp [D.py]⟩
      | int _ => exact ⟨by simp [D.py], by intro ys; simp [D.py]⟩
      | str _ => exact ⟨by simp [D.py], by intro ys; simp [D.py]⟩
      | lst _ => exact ⟨by simp [D.py], by intro ys; simp [D.py]⟩
      | scr _ => exact ⟨by simp [D.py], by intro ys; simp [D.py]⟩
  · intro d hd'
    have := ok5 d hd'
    show X.A.in1.units + 1 + d.py.depth < cLine
    have e : X.A.in1.units = X.A.units + 1 := rfl
    omega
  · obtain ⟨ys, k1, k2⟩ := each_vals rv ho2 hl
    obtain ⟨ep, he'⟩ := PyProof.Rows.sortedHeap_at (vs := its) (out := out.toArray) hL
    refine wpAny_pure ?_
    have hyl : ys.length = ds.length := by rw [k1.length, ho1]
    refine ⟨_, rfl, .ref h'.objs.size, upd H h'.objs.size (.lst ys), I.laid (t' := tk) (fun b u e => ?_) hsz ⟨by rw [hyl]; exact ok4, out, ep, k1, he'⟩, rfl, q ys _ (fun j y d a b => k2 j y d a b) hyl (I.hok.fresh hsz)⟩
    rw [PyProof.Rows.sortedHeap_old (nL b u e) (Heap.lt_size (hk2 b u e))]
    exact hk2 b u e
end
theorem keys_eq {mg : Mg} {G : Hp} : ∀ {vs : List (Key × V)} {kvs : List (Key × D)}, RpK mg G vs kvs → (vs.map fun q => keyD q.1) = kvs.map fun q => keyD q.1
  | _, _, .nil => rfl
  | _, _, .cons _ t => by rw [List.map_cons, List.map_cons, keys_eq t]
section
variable {Φ : Fam}
/-- sorted(d), d a dict -/
def sortKF : D → Option Dv
  | .dct kvs => if sortOk (kvs.map fun q => keyD q.1) = true then some (.o false (sortD (kvs.map fun q => keyD q.1))) else none
  | _ => none
theorem so_sortK {e : Expr} {p pos : Pos} {m : M D} (h : SE Φ e m) (hg : Φ.sc.names.lookup ("sorted" : Str) = some .globalImplicit) (hm : Φ.mg "sorted" = none)
    (hst : ∀ env, starEach [e] env = (false, eval e env) :: starEach [] env := by intro _; first | rfl | with_unfolding_all rfl) (hc : Φ.cal = true := by rfl) : SO Φ (.Call (.Name "sorted" p) [e] [] pos) (bindM m fun d => optM (sortKF d)) := by
  obtain ⟨t, q, h⟩ := h
  refine ⟨tCB rSortK (tCons t tNil), fun i => pe_callB (cr_sortK (Φ.calm hc i) (by have := (Φ.room i).2; omega)) (Φ.gl hg i) (Φ.mgn hm i) bb_sorted (pa1 (q i) hst) (by decide) (by decide) (hst _) rfl, fun F G ρ σ H Q R s => ?_⟩
  refine h F G ρ σ H _ R (s.bind.imp (fun d ρ1 q G1 H1 v R1 s1 r => ?_) fun _ _ z => z)
  obtain ⟨w, e1, q⟩ := q.opt
  cases r with
  | dct e2 r2 =>
    unfold sortKF at e1
    dsimp only at e1
    split at e1
    · rename_i ok
      cases e1
      have ek : (((_ : List (Key × V))).map fun q => keyD q.1) = _ := keys_eq r2
      refine ⟨_, _, _, rfl, R1.sub _ _ e2, by rw [ek]; exact ok, fun ys p hy hl hp => ?_⟩
      rw [ek] at hy hl
      have ra : RpA Φ.mg G1 ys (sortD _) := RpA.of_get (by rw [hl]; unfold sortD; rw [List.length_mergeSort]) fun j y d ey ed => by
        obtain ⟨i, g1, g2⟩ := hy j y d ey ed
        rw [List.getElem?_map] at g1 g2
        obtain ⟨⟨k, v⟩, g3, rfl⟩ := Option.map_eq_some_iff.mp g1
        obtain ⟨⟨k2, d2⟩, g4, rfl⟩ := Option.map_eq_some_iff.mp g2
        obtain ⟨v3, g5, _⟩ := r2.get g4
        rw [g3] at g5
        cases g5
        exact keyD_rp _
      obtain ⟨R2, N⟩ := R1.new hp (w := .o false (sortD _)) (o := .lst ys) rfl rfl ⟨ys, upd_same, ra⟩
      exact q _ _ _ R2 s1 N
    · cases e1
  | _ => cases e1
end
end Fl
end

section
set_option Elab.async false
set_option linter.all false
set_option maxRecDepth 100000
set_option autoImplicit false
/-! Fl, part 9: backward steps of 6, 7, 8; tables of defs. -/
namespace Fl
open PySem PySem.Spec PyProof.Rows L2
section
variable {P : Program} {w : World} {K : PySem.W.Frag} {mg : Mg} {base : Heap} {k : Nat}
theorem tab_nil : ∀ (f : Str) (g : List Dv → R), ([] : List (Str × (List Dv → R))).lookup f = some g → Fn P w K mg base k f g := fun f g h => by cases h
theorem tab_cons {x : Str} {m : List Dv → R} {T : List (Str × (List Dv → R))} (F : Fn P w K mg base k x m) (h : ∀ (f : Str) (g : List Dv → R), T.lookup f = some g → Fn P w K mg base k f g) : ∀ (f : Str) (g : List Dv → R), ((x, m) :: T).lookup f = some g → Fn P w K mg base k f g := fun f g e => by
  rw [List.lookup_cons] at e
  split at e
  · rename_i q
    have : f = x := by simpa using q
    subst this
    cases e
    exact F
  · exact h f g e
end
section
variable {Φ : Fam}
theorem se_gfnD {x : Str} {pos : Pos} {st : Stmt} (hg : Φ.sc.names.lookup x = some .globalImplicit) (hm : DefAt Φ.K Φ.mg.f x st) (hd : (x == ("__debug__" : Str)) = false := by decide) : SE Φ (.Name x pos) (pureM (.fn x)) := by
  obtain ⟨a, fd, e, _⟩ := hm
  exact se_gfn hg e hd
/-! ### a text times a number -/
def mulSF (d e : D) : Option D := match d, e with
  | .str a, .int k => if (0 ≤ k ∧ k ≤ 1000) ∧ a.length ≤ 1000 then some (.str (Txt.mul a k)) else none
  | _, _ => none
theorem mulOk_small {a : Str} {k : Int} (h : (0 ≤ k ∧ k ≤ 1000) ∧ a.length ≤ 1000) : MulOk a k := by
  refine ⟨?_, fun h1 h2 => ?_, fun h1 h2 => ?_⟩
  · rw [decide_eq_false (by omega), decide_eq_false (by omega)]; rfl
  · have h3 : (1000 : Int) ≤ (2 ^ 63 - 1) / k := by
      rw [Int.le_ediv_iff_mul_le (by omega)]
      omega
    omega
  · have h3 : a.length * k.toNat ≤ 1000 * 1000 := Nat.mul_le_mul h.2 (by omega)
    show decide (a.length * k.toNat > 2 ^ 24) = false
    rw [decide_eq_false (by omega)]
theorem opMulS : OpOk Φ (binaryOp .Mult) mulSF := by
  refine ⟨fun x y H Q => ∃ (a : Str) (k : Int), x = .str a ∧ y = .int k ∧ ((0 ≤ k ∧ k ≤ 1000) ∧ a.length ≤ 1000) ∧ Q (.str (Txt.mul a k)) H, fun i => ?_, ?_⟩
  · intro pins s σ H x y v u Q I rx ry h
    obtain ⟨a, k, rfl, rfl, hc, q⟩ := h
    obtain ⟨t, rfl⟩ := rx
    obtain ⟨t', rfl⟩ := ry
    exact SB.mul (mulOk_small hc) fun t2 k2 => ⟨.str (Txt.mul a k), H, I.tok k2, ⟨_, rfl⟩, q⟩
  · intro G H x y d e z Q s rx ry hz q
    unfold mulSF at hz
    split at hz
    · split at hz
      · rename_i hc
        cases hz
        cases rx
        cases ry
        exact ⟨_, _, rfl, rfl, hc, q G H _ (Ext.refl s) (.str _)⟩
      · cases hz
    · cases hz
end
section
variable {ρ : Env}
theorem tr_frzS {j : Nat} {ds : List D} {m : M Fw} {P : Fw → Env → Prop} (e : ρ[j]? = some (some (.o false ds))) (h : Tr (m (ρ.set j (some (.p (.lst ds))))) P) : Tr (frzS j m ρ) P := by
  unfold frzS; rw [e]; exact h
theorem tr_frzSk {j : Nat} {kvs : List (Key × D)} {m : M Fw} {P : Fw → Env → Prop} (e : ρ[j]? = some (some (.k false kvs))) (h : Tr (m (ρ.set j (some (.p (.dct kvs))))) P) : Tr (frzS j m ρ) P := by
  unfold frzS; rw [e]; exact h
theorem tr_setKM {j : Nat} {m mk : M D} {P : Fw → Env → Prop} (h : Tr (m ρ) fun d ρ1 => isK ρ1 j = true ∧ Tr (mk ρ1) fun e ρ2 => ∃ f kvs k, ρ2[j]? = some (some (.k f kvs)) ∧ keyF e = some k ∧ kvs.length < sizeLine ∧ P .nx (ρ2.set j (some (.k f (kvPut kvs k d))))) : Tr (setKM j m mk ρ) P := by
  refine tr_bind (h.mono fun d ρ1 q => ?_)
  obtain ⟨hk, q⟩ := q
  rw [if_pos hk]
  refine tr_bind (q.mono fun e ρ2 q => ?_)
  obtain ⟨f, kvs, k, e1, e2, e3, q⟩ := q
  rw [e1, e2]
  dsimp only
  rw [if_pos e3]
  exact q
theorem tr_ixKM {j : Nat} {mk : M D} {P : D → Env → Prop} (hk : isK ρ j = true) (h : Tr (mk ρ) fun e ρ1 => ∃ f kvs, ρ1[j]? = some (some (.k f kvs)) ∧ Tr (optM ((keyF e).bind (kvD kvs)) ρ1) P) : Tr (ixKM j mk ρ) P := by
  unfold ixKM
  rw [if_pos hk]
  refine tr_bind (h.mono fun e ρ1 q => ?_)
  obtain ⟨f, kvs, e1, q⟩ := q
  rw [e1]
  dsimp only
  cases z : (keyF e).bind (kvD kvs) with
  | none => rw [z] at q; exact q.elim
  | some d => rw [z] at q; exact q
theorem tr_inKM {neg : Bool} {j : Nat} {mk : M D} {P : D → Env → Prop} (h : Tr (mk ρ) fun e ρ1 => ∃ f kvs k, ρ1[j]? = some (some (.k f kvs)) ∧ keyF e = some k ∧ P (.bl (if neg = true then !(kvD kvs k).isSome else (kvD kvs k).isSome)) ρ1) : Tr (inKM neg mk j ρ) P := by
  refine tr_bind (h.mono fun e ρ1 q => ?_)
  obtain ⟨f, kvs, k, e1, e2, q⟩ := q
  rw [e1, e2]
  exact q
theorem tr_getKM {j : Nat} {mk mx : M D} {P : D → Env → Prop} (hk : isK ρ j = true) (h : Tr (mk ρ) fun e ρ1 => Tr (mx ρ1) fun x ρ2 => ∃ f kvs k, ρ2[j]? = some (some (.k f kvs)) ∧ keyF e = some k ∧ P ((kvD kvs k).getD x) ρ2) : Tr (getKM j mk mx ρ) P := by
  unfold getKM
  rw [if_pos hk]
  refine tr_bind (h.mono fun e ρ1 q => tr_bind (q.mono fun x ρ2 q => ?_))
  obtain ⟨f, kvs, k, e1, e2, q⟩ := q
  rw [e1, e2]
  exact q
theorem tr_getM {md mk mx : M D} {P : D → Env → Prop} (h : Tr (md ρ) fun d ρ1 => ∃ kvs, d = .dct kvs ∧ Tr (mk ρ1) fun e ρ2 => Tr (mx ρ2) fun x ρ3 => ∃ k, keyF e = some k ∧ P ((kvD kvs k).getD x) ρ3) : Tr (getM md mk mx ρ) P := by
  refine tr_bind (h.mono fun d ρ1 q => ?_)
  obtain ⟨kvs, rfl, q⟩ := q
  refine tr_bind (tr_opt rfl (tr_bind (q.mono fun e ρ2 q => tr_bind (q.mono fun x ρ3 q => ?_))))
  obtain ⟨k, e1, q⟩ := q
  exact tr_opt (by rw [e1]; rfl) q
theorem tr_splM {mo m : M D} {P : Dv → Env → Prop} (h : Tr (mo ρ) fun d ρ1 => ∃ a, d = .str a ∧ Tr (m ρ1) fun e ρ2 => ∃ b, e = .str b ∧ (b.length == 0) = false ∧ a.length + 2 ≤ sizeLine ∧ P (.o false ((Txt.split a b).map D.str)) ρ2) : Tr (splM mo m ρ) P := by
  refine tr_bind (h.mono fun d ρ1 q => ?_)
  obtain ⟨a, rfl, q⟩ := q
  refine tr_bind (q.mono fun e ρ2 q => ?_)
  obtain ⟨b, rfl, h1, h2, q⟩ := q
  exact tr_opt (by unfold splF; rw [if_pos ⟨h1, h2⟩]) q
theorem tr_callLM {j : Nat} {T : List (Str × (List Dv → R))} {f : Str} {g : List Dv → R} {ma : M (List Arg)} {P : Dv → Env → Prop} (e : ρ[j]? = some (some (.p (.fn f)))) (eg : T.lookup f = some g) (h : Tr (callM g ma ρ) P) : Tr (callLM j T ma ρ) P := by
  unfold callLM noexM
  rw [e]
  dsimp only
  rw [eg]
  dsimp only
  cases z : callM g ma ρ with
  | ok a ρ' => rw [z] at h; exact h
  | ex c ρ' => rw [z] at h; exact h.elim
  | no => rw [z] at h; exact h.elim
theorem tr_retVk {i : Nat} {kvs : List (Key × D)} {P : Fw → Env → Prop} (e : ρ[i]? = some (some (.k false kvs))) (h : P (.ret (.k false kvs)) ρ) : Tr (retV i ρ) P := by unfold retV; rw [e]; exact h
end
/-! ### an exception class whose __init__ says super().__init__(a + str(p) + b) -/
def tLine (a b : Str) : TE := tOp (fun x y H Q => ∃ i j, x = .str i ∧ y = .str j ∧ i.length + j.length ≤ sizeLine ∧ Q (.str (i ++ j)) H) (tOp (fun x y H Q => ∃ i j, x = .str i ∧ y = .str j ∧ i.length + j.length ≤ sizeLine ∧ Q (.str (i ++ j)) H) (tC (.str a)) (tCB (fun xs H Q => ∃ i : Int, xs = [.int i] ∧ i.natAbs.log2 < 1920 ∧ Q (.str (toString i)) H) (tCons (tVar 1) tNil))) (tC (.str b))
theorem line_ok {a b : Str} (hl : a.length + b.length ≤ 1000) (v0 : V) (i : Int) (H : Hp) (h : i.natAbs.log2 < 1920) : tLine a b [some v0, some (.int i)] H fun _ H' => H' = H := by
  have e : ((toString i : String) : Str).length ≤ 1921 := by
    have z := int_text_length_le (a := i) (k := 1920) (by omega) h
    show (Str.ofString (toString i)).length ≤ 1921
    rw [PySem.ofString_length]; exact z
  have e2 : (a ++ ((toString i : String) : Str)).length = a.length + ((toString i : String) : Str).length := by
    show (a.cps ++ _).size = _
    rw [Array.size_append]; rfl
  refine ⟨.int i, rfl, i, rfl, h, a, _, rfl, rfl, ?_, _, b, rfl, rfl, ?_, rfl⟩
  · rw [sizeLine_eq]; omega
  · rw [sizeLine_eq, e2]; omega
theorem pay_line {P : Program} {w : World} {K : PySem.W.Frag} {mg : Str → Option Value} {base : Heap} {d : Ini} {p f a b : Str} {j1 j2 : Nat} {p0 p1 p2 p3 p4 p5 p6 q1 q2 q3 q4 q5 q6 q7 pos pos' : Pos} {ar : PySem.Arg}
    (hs : supB K P.main.file d = true) (hi : inW K d = d.val) (hsup : mg "super" = none) (hstr : mg "str" = none) (hm : mg d.cls = some (.ref (He.ga K d.cls))) (S : IniSc d.st p f) (hsc : (defScope d.st).names.lookup ("str" : Str) = some .globalImplicit)
    (hbody : defBody d.st = [.Expr (.Call (.Attribute (.Call (.Name "super" p0) [] [] p1) "__init__" p2) [.BinOp (.BinOp (.Constant (.str a) j1 q1) .Add (.Call (.Name "str" q2) [.Name p q3] [] q4) q5) .Add (.Constant (.str b) j2 q6) q7] [] pos) pos', .Assign [.Attribute (.Name "self" p3) f p4] (.Name p p5) p6])
    (hp : ((defArgs d.st).posonlyargs ++ (defArgs d.st).args).head? = some ar) (har : ar.arg = "self") (hfld : PySem.W.findIn K (.ref (He.ga K d.cls)) f = some none) (htop : (P.main.scope.names.lookup ("super" : Str)).isSome = false)
    (hd1 : (p == ("__debug__" : Str)) = false) (hd2 : (p == ("__classdict__" : Str)) = false) (hl : a.length + b.length ≤ 1000)
    (hb : ∀ (kV doc pm : Value) (an : Option Addr) (cdv ct : Value) (cc : Addr) (us : List Value), us.length = 2 → bindArgs (PySem.W.ksFn "__init__" d.qual (defArgs d.st) (defBody d.st) (defScope d.st) .none kV doc pm an cdv ct cc) ⟨us, []⟩ = pure ((["self", p] : List Str).zip us))
    (hc : ∀ ee : PySem.Env, ∃ pl : Sem Bool, eval (.Call (.Attribute (.Call (.Name "super" p0) [] [] p1) "__init__" p2) [.BinOp (.BinOp (.Constant (.str a) j1 q1) .Add (.Call (.Name "str" q2) [.Name p q3] [] q4) q5) .Add (.Constant (.str b) j2 q6) q7] [] pos) ee = (do
      let ov ← attributeBase (.Call (.Name "super" p0) [] [] p1) "__init__" ee (eval (.Call (.Name "super" p0) [] [] p1) ee)
      standAt p2.atName
      let (f, first) ← holding [ov] (getMethod ov "__init__" pl)
      callWith pos f first (backTo pos (starEach [.BinOp (.BinOp (.Constant (.str a) j1 q1) .Add (.Call (.Name "str" q2) [.Name p q3] [] q4) q5) .Add (.Constant (.str b) j2 q6) q7] ee)) []) := by intro _; exact ⟨_, rfl⟩) :
    PayOk P w K mg base d.cls f smallD := by
  obtain ⟨cc, cda, fd, Z⟩ := supB_ok hs hi hsup
  have Z' := Z
  obtain ⟨oc, od, kV, doc, pm, an, ct, osl, rfl, _⟩ := Z'.fn
  refine ⟨_, _, _, p, fun v => ∃ i : Int, v = .int i ∧ i.natAbs.log2 < 1920, hm, Z.oex, Z.ini, Z.tfn, ini_ok (t := tLine a b) Z S hbody hp har hfld htop hd1 hd2 (fun X h1 h2 h3 h4 h5 h6 h7 => ?_) (fun v0 v1 H hv => ?_) (hc := hc), ?_, fun mg G v d r hg => ?_⟩
  · have gl : ∀ {x : Str}, (defScope d.st).names.lookup x = some .globalImplicit → Gl X x := fun {x} h => by
      show X.env.scope.names.lookup x = some .globalImplicit
      rw [h5]; exact h
    refine pe_op op_add_str (pe_op op_add_str pe_str (pe_callTy call_str_int (gl hsc) (by rw [h4]; exact hstr) bb_str (pa_cons (pe_var (i := 1) (by rw [h6]; rfl) (by left; rw [h5]; exact S.par) hd1 hd2) pa_nil rfl) (by decide) (by decide) rfl rfl)) pe_str
  · obtain ⟨i, rfl, h⟩ := hv
    exact line_ok hl v0 i H h
  · exact .all fun us hl => hb kV doc pm an (.ref cda) ct cc us hl
  · cases r with
    | int i => exact ⟨i, rfl, by simpa [smallD] using hg⟩
    | _ => cases hg
end Fl
end

section
set_option Elab.async false
set_option linter.all false
set_option maxRecDepth 100000
set_option autoImplicit false
noncomputable section
namespace Lk
open Fl PySem

def cat_BadText : List (Str × Bool) := [("BadText", true)]
def tab_is_BadGame : List (Str × Bool) := [("BadText", false)]
def tab_line : List Str := ["BadText"]
/- is_name: word:0 char:1 -/
def b_is_name : M Fw :=
  seqS (ifM (orM (notM (boolM (chainM leF leF (pureM (.int 1)) (callB (f1 lenF) (consM (varM 0) (pureM []))) (pureM (.int 12))))) (boolM (op2M notInF (op2M ixF (varM 0) (pureM (.int 0))) (pureM (.str "abcdefghijklmnopqrstuvwxyz"))))) (retM (pureM (.bl false))) (pureM .nx)) <|
  seqS (forM (itM itemF (varM 0)) (tgN 1) (ifM (andM (boolM (op2M notInF (varM 1) (pureM (.str "abcdefghijklmnopqrstuvwxyz")))) (boolM (op2M notInF (varM 1) (pureM (.str "0123456789"))))) (retM (pureM (.bl false))) (pureM .nx))) <|
  retM (pureM (.bl true))
def m_is_name : List Dv → R := fnM 1 2 b_is_name
/- number_in: word:0 char:1 -/
def b_number_in : M Fw :=
  seqS (ifM (notM (boolM (chainM leF leF (pureM (.int 1)) (callB (f1 lenF) (consM (varM 0) (pureM []))) (pureM (.int 40))))) (retM (pureM .non)) (pureM .nx)) <|
  seqS (forM (itM itemF (varM 0)) (tgN 1) (ifM (boolM (op2M notInF (varM 1) (pureM (.str "0123456789")))) (retM (pureM .non)) (pureM .nx))) <|
  seqS (ifM (andM (boolM (op2M eqF (op2M ixF (varM 0) (pureM (.int 0))) (pureM (.str "0")))) (boolM (op2M gtF (callB (f1 lenF) (consM (varM 0) (pureM []))) (pureM (.int 1))))) (retM (pureM .non)) (pureM .nx)) <|
  retM (callB (f1 intF1) (consM (varM 0) (pureM [])))
def m_number_in : List Dv → R := fnM 1 2 b_number_in
/- integer_in: word:0 number:1 -/
def b_integer_in : M Fw :=
  seqS (ifM (boolM (op2M neF (slM slF (varM 0) (pureM none) (partM (pureM (.int 1)))) (pureM (.str "-")))) (retO (callM m_number_in (consR (argV (varM 0)) (pureM [])))) (pureM .nx)) <|
  seqS (setM 1 (frzM (callM m_number_in (consR (argV (slM slF (varM 0) (partM (pureM (.int 1))) (pureM none))) (pureM []))))) <|
  seqS (ifM (orM (boolM (op2M isNF (varM 1) (pureM .non))) (boolM (op2M eqF (varM 1) (pureM (.int 0))))) (retM (pureM .non)) (pureM .nx)) <|
  retM (negM (varM 1))
def m_integer_in : List Dv → R := fnM 1 2 b_integer_in
/- fraction_in: word:0 parts:1 top:2 bottom:3 -/
def b_fraction_in : M Fw :=
  seqS (setM 1 (frzM (splM (varM 0) (pureM (.str "/"))))) <|
  seqS (ifM (boolM (op2M neF (callB (f1 lenF) (consM (varM 1) (pureM []))) (pureM (.int 2)))) (retM (pureM .non)) (pureM .nx)) <|
  seqS (setM 2 (frzM (callM m_integer_in (consR (argV (op2M ixF (varM 1) (pureM (.int 0)))) (pureM []))))) <|
  seqS (setM 3 (frzM (callM m_number_in (consR (argV (op2M ixF (varM 1) (pureM (.int 1)))) (pureM []))))) <|
  seqS (ifM (orM (boolM (op2M isNF (varM 2) (pureM .non))) (orM (boolM (op2M isNF (varM 3) (pureM .non))) (orM (boolM (op2M eqF (varM 3) (pureM (.int 0)))) (boolM (op2M neF (callB gcdF (consM (varM 2) (consM (varM 3) (pureM [])))) (pureM (.int 1))))))) (retM (pureM .non)) (pureM .nx)) <|
  retM (tupM (consM (varM 2) (consM (varM 3) (pureM []))))
def m_fraction_in : List Dv → R := fnM 1 4 b_fraction_in
/- format_fraction: part:0 -/
def b_format_fraction : M Fw :=
  retM (op2M addF (op2M addF (callB (f1 strF1) (consM (op2M ixF (varM 0) (pureM (.int 0))) (pureM []))) (pureM (.str "/"))) (callB (f1 strF1) (consM (op2M ixF (varM 0) (pureM (.int 1))) (pureM []))))
def m_format_fraction : List Dv → R := fnM 1 1 b_format_fraction
/- _read_words: words:0 reader:1 found:2 word:3 -/
def b__read_words : M Fw :=
  seqS (setM 2 (frzM (lcM [3] (itM itemF (varM 0)) (tgN 3) (pureM true) (frzM (callLM 1 [("integer_in", m_integer_in), ("number_in", m_number_in), ("fraction_in", m_fraction_in)] (consR (argV (varM 3)) (pureM []))))))) <|
  seqS (ifM (boolM (op2M inF (pureM .non) (varM 2))) (retM (pureM .non)) (pureM .nx)) <|
  retM (callB (f1 tupF1) (consM (varM 2) (pureM [])))
def m__read_words : List Dv → R := fnM 2 4 b__read_words
/- format_gains: gains:0 lines:1o outcome:2 first:3 second:4 -/
def b_format_gains : M Fw :=
  seqS (setO 1 (lstM (pureM []))) <|
  seqS (forM (itM itemF (frzM (bindM (varM 0) fun d => optM (sortKF d)))) (tgN 2) (seqS (asgM (op2M ixF (varM 0) (varM 2)) (tgT (tgCons (tgN 3) (tgCons (tgN 4) (tgNil))) 2)) <|
  appM 1 (op2M addF (op2M addF (op2M addF (op2M addF (op2M addF (pureM (.str "gain ")) (varM 2)) (pureM (.str " "))) (callB (f1 strF1) (consM (varM 3) (pureM [])))) (pureM (.str " "))) (callB (f1 strF1) (consM (varM 4) (pureM [])))))) <|
  retM (joinM (pureM (.str "\n")) (ownM 1))
def m_format_gains : List Dv → R := fnM 1 5 b_format_gains
/- read_gain: line:0 words:1 pair:2 -/
def b_read_gain : M Fw :=
  seqS (setM 1 (frzM (splM (varM 0) (pureM (.str " "))))) <|
  seqS (ifM (orM (boolM (op2M neF (callB (f1 lenF) (consM (varM 1) (pureM []))) (pureM (.int 4)))) (orM (boolM (op2M neF (op2M ixF (varM 1) (pureM (.int 0))) (pureM (.str "gain")))) (notM (boolM (frzM (callM m_is_name (consR (argV (op2M ixF (varM 1) (pureM (.int 1)))) (pureM [])))))))) (retM (pureM .non)) (pureM .nx)) <|
  seqS (setM 2 (frzM (callM m__read_words (consR (argV (slM slF (varM 1) (partM (pureM (.int 2))) (pureM none))) (consR (argV (pureM (.fn "integer_in"))) (pureM [])))))) <|
  seqS (ifM (boolM (op2M isNF (varM 2) (pureM .non))) (retM (pureM .non)) (pureM .nx)) <|
  retM (tupM (consM (op2M ixF (varM 1) (pureM (.int 1))) (consM (varM 2) (pureM []))))
def m_read_gain : List Dv → R := fnM 1 3 b_read_gain
/- read_gains: text:0 gains:1o last:2 index:3 line:4 found:5 -/
def b_read_gains : M Fw :=
  seqS (setO 1 (pureM (.k false []))) <|
  seqS (ifM (boolM (op2M eqF (varM 0) (pureM (.str "")))) (retV 1) (pureM .nx)) <|
  seqS (setM 2 (pureM (.str ""))) <|
  seqS (forM (itM enF (frzM (splM (varM 0) (pureM (.str "\n"))))) (tgT (tgCons (tgN 3) (tgCons (tgN 4) (tgNil))) 2) (seqS (setM 5 (frzM (callM m_read_gain (consR (argV (varM 4)) (pureM []))))) <|
  seqS (ifM (orM (boolM (op2M isNF (varM 5) (pureM .non))) (notM (boolM (op2M ltF (varM 2) (op2M ixF (varM 5) (pureM (.int 0))))))) (raisePM "BadText" "line" smallD (op2M addF (varM 3) (pureM (.int 1)))) (pureM .nx)) <|
  seqS (setM 2 (op2M ixF (varM 5) (pureM (.int 0)))) <|
  setKM 1 (op2M ixF (varM 5) (pureM (.int 1))) (varM 2))) <|
  retV 1
def m_read_gains : List Dv → R := fnM 1 6 b_read_gains
/- format_lot: lot:0 weight:1 -/
def b_format_lot : M Fw :=
  retM (joinM (pureM (.str " ")) (seqM (frzM (catM (frzM (lstM (consM (pureM (.str "lot")) (pureM [])))) (seqM (frzM (lcM [1] (itM itemF (varM 0)) (tgN 1) (pureM true) (callB (f1 strF1) (consM (varM 1) (pureM []))))))))))
def m_format_lot : List Dv → R := fnM 1 2 b_format_lot
/- read_lot: line:0 words:1 lot:2 -/
def b_read_lot : M Fw :=
  seqS (setM 1 (frzM (splM (varM 0) (pureM (.str " "))))) <|
  seqS (ifM (orM (boolM (op2M neF (op2M ixF (varM 1) (pureM (.int 0))) (pureM (.str "lot")))) (boolM (op2M ltF (callB (f1 lenF) (consM (varM 1) (pureM []))) (pureM (.int 2))))) (retM (pureM .non)) (pureM .nx)) <|
  seqS (setM 2 (frzM (callM m__read_words (consR (argV (slM slF (varM 1) (partM (pureM (.int 1))) (pureM none))) (consR (argV (pureM (.fn "number_in"))) (pureM [])))))) <|
  seqS (ifM (orM (boolM (op2M isNF (varM 2) (pureM .non))) (boolM (op2M eqF (qM (mmQ maxL) (seqM (varM 2))) (pureM (.int 0))))) (retM (pureM .non)) (pureM .nx)) <|
  retM (varM 2)
def m_read_lot : List Dv → R := fnM 1 3 b_read_lot
/- format_parts: word:0 parts:1 part:2 -/
def b_format_parts : M Fw :=
  retM (joinM (pureM (.str " ")) (seqM (frzM (catM (frzM (lstM (consM (varM 0) (pureM [])))) (seqM (frzM (lcM [2] (itM itemF (varM 1)) (tgN 2) (pureM true) (frzM (callM m_format_fraction (consR (argV (varM 2)) (pureM [])))))))))))
def m_format_parts : List Dv → R := fnM 2 3 b_format_parts
/- read_parts: word:0 line:1 words:2 -/
def b_read_parts : M Fw :=
  seqS (setM 2 (frzM (splM (varM 1) (pureM (.str " "))))) <|
  seqS (ifM (boolM (op2M neF (op2M ixF (varM 2) (pureM (.int 0))) (varM 0))) (retM (pureM .non)) (pureM .nx)) <|
  retO (callM m__read_words (consR (argV (slM slF (varM 2) (partM (pureM (.int 1))) (pureM none))) (consR (argV (pureM (.fn "fraction_in"))) (pureM []))))
def m_read_parts : List Dv → R := fnM 2 3 b_read_parts
/- _law_source: script:0 mixed:1 cell:2 -/
def b__law_source : M Fw :=
  seqS (setM 1 (pureM (.int 20011))) <|
  seqS (forM (itM itemF (varM 0)) (tgN 2) (setM 1 (op2M modF (callB (f1 intF1) (consM (op2M addF (op2M addF (op2M mulF (varM 1) (pureM (.int 48271))) (op2M mulF (varM 2) (pureM (.int 7919)))) (pureM (.int 12345))) (pureM []))) (pureM (.int 2147483647))))) <|
  retO (lstM (consM (pureM (.int 0)) (consM (pureM (.int 0)) (consM (varM 1) (pureM [])))))
def m__law_source : List Dv → R := fnM 1 3 b__law_source
/- _law_draw: script:0 source:1o limit:2 cell:3 found:4 -/
def b__law_draw : M Fw :=
  seqS (ifM (andM (boolM (op2M eqF (ixOM 1 (pureM (.int 1))) (pureM (.int 0)))) (boolM (op2M ltF (ixOM 1 (pureM (.int 0))) (callB (f1 lenF) (consM (varM 0) (pureM [])))))) (seqS (setM 3 (callB (f1 absF) (consM (op2M ixF (varM 0) (ixOM 1 (pureM (.int 0)))) (pureM [])))) <|
  seqS (setIxM 1 (op2M addF (ixOM 1 (pureM (.int 0))) (pureM (.int 1))) (pureM (.int 0))) <|
  seqS (ifM (boolM (op2M ltF (varM 3) (op2M powF (pureM (.int 10)) (pureM (.int 18))))) (seqS (setM 3 (op2M modF (callB (f1 intF1) (consM (op2M addF (op2M addF (op2M mulF (varM 3) (pureM (.int 48271))) (op2M mulF (ixOM 1 (pureM (.int 0))) (pureM (.int 69621)))) (ixOM 1 (pureM (.int 2)))) (pureM []))) (pureM (.int 2147483647)))) <|
  setM 3 (op2M modF (callB (f1 intF1) (consM (op2M addF (op2M addF (op2M mulF (varM 3) (varM 3)) (op2M mulF (varM 3) (pureM (.int 30011)))) (ixOM 1 (pureM (.int 0)))) (pureM []))) (pureM (.int 1000000007)))) (pureM .nx)) <|
  setIxM 1 (varM 3) (pureM (.int 1))) (pureM .nx)) <|
  seqS (ifM (boolM (op2M gtF (ixOM 1 (pureM (.int 1))) (pureM (.int 0)))) (seqS (setM 4 (op2M modF (callB (f1 intF1) (consM (ixOM 1 (pureM (.int 1))) (pureM []))) (varM 2))) <|
  seqS (setIxM 1 (op2M fdivF (ixOM 1 (pureM (.int 1))) (varM 2)) (pureM (.int 1))) <|
  retM (varM 4)) (pureM .nx)) <|
  seqS (setIxM 1 (op2M modF (callB (f1 intF1) (consM (op2M addF (op2M mulF (ixOM 1 (pureM (.int 2))) (pureM (.int 69621))) (pureM (.int 4321))) (pureM []))) (pureM (.int 2147483647))) (pureM (.int 2))) <|
  retM (op2M modF (callB (f1 intF1) (consM (op2M fdivF (ixOM 1 (pureM (.int 2))) (pureM (.int 97))) (pureM []))) (varM 2))
def m__law_draw : List Dv → R := fnM 3 5 b__law_draw
/- _law_name: script:0 source:1o used:2 letters:3 signs:4 name:5 k:6 base:7 -/
def b__law_name : M Fw :=
  seqS (setM 3 (pureM (.str "abcdefghijklmnopqrstuvwxyz"))) <|
  seqS (setM 4 (op2M addF (varM 3) (pureM (.str "0123456789")))) <|
  seqS (setM 5 (op2M ixF (varM 3) (frzM (callM m__law_draw (consR (argV (varM 0)) (consR (argR 1) (consR (argV (pureM (.int 26))) (pureM [])))))))) <|
  seqS (forM (itM rng1F (frzM (callM m__law_draw (consR (argV (varM 0)) (consR (argR 1) (consR (argV (pureM (.int 3))) (pureM []))))))) (tgN 6) (setM 5 (op2M addF (varM 5) (op2M ixF (varM 4) (frzM (callM m__law_draw (consR (argV (varM 0)) (consR (argR 1) (consR (argV (pureM (.int 36))) (pureM [])))))))))) <|
  seqS (ifM (boolM (op2M eqF (frzM (callM m__law_draw (consR (argV (varM 0)) (consR (argR 1) (consR (argV (pureM (.int 6))) (pureM [])))))) (pureM (.int 1)))) (setM 5 (op2M ixF (frzM (lstM (consM (pureM (.str "p0")) (consM (pureM (.str "p1")) (consM (pureM (.str "p2")) (consM (pureM (.str "m0")) (consM (pureM (.str "m1")) (consM (pureM (.str "m2")) (pureM []))))))))) (frzM (callM m__law_draw (consR (argV (varM 0)) (consR (argR 1) (consR (argV (pureM (.int 6))) (pureM [])))))))) (pureM .nx)) <|
  seqS (setM 7 (varM 5)) <|
  seqS (forM (itM rng1F (op2M addF (callB (f1 lenF) (consM (varM 2) (pureM []))) (pureM (.int 1)))) (tgN 6) (ifM (boolM (op2M inF (varM 5) (varM 2))) (setM 5 (op2M addF (varM 7) (callB (f1 strF1) (consM (varM 6) (pureM []))))) (pureM .nx))) <|
  retM (varM 5)
def m__law_name : List Dv → R := fnM 3 8 b__law_name
/- _law_gcd: a:0 b:1 k:2 -/
def b__law_gcd : M Fw :=
  seqS (forM (itM rng1F (op2M addF (op2M mulF (pureM (.int 2)) (bitsM (callB (f1 intF1) (consM (varM 1) (pureM []))))) (pureM (.int 2)))) (tgN 2) (seqS (ifM (boolM (op2M eqF (varM 1) (pureM (.int 0)))) (retM (varM 0)) (pureM .nx)) <|
  parM 0 1 (consM (varM 1) (consM (op2M modF (callB (f1 intF1) (consM (varM 0) (pureM []))) (varM 1)) (pureM []))))) <|
  retM (varM 0)
def m__law_gcd : List Dv → R := fnM 2 3 b__law_gcd
/- _law_is_name: word:0 letters:1 sign:2 -/
def b__law_is_name : M Fw :=
  seqS (setM 1 (pureM (.str "abcdefghijklmnopqrstuvwxyz"))) <|
  seqS (ifM (orM (notM (boolM (chainM leF leF (pureM (.int 1)) (callB (f1 lenF) (consM (varM 0) (pureM []))) (pureM (.int 12))))) (boolM (op2M notInF (op2M ixF (varM 0) (pureM (.int 0))) (varM 1)))) (retM (pureM (.bl false))) (pureM .nx)) <|
  retM (op2M eqF (callB (f1 lenF) (consM (frzM (lcM [2] (itM itemF (varM 0)) (tgN 2) (andM (boolM (op2M notInF (varM 2) (varM 1))) (boolM (op2M notInF (varM 2) (pureM (.str "0123456789"))))) (varM 2))) (pureM []))) (pureM (.int 0)))
def m__law_is_name : List Dv → R := fnM 1 3 b__law_is_name
/- _law_told: answer:0 due:1 k:2 name:3 -/
def b__law_told (self : List Dv → R) : M Fw :=
  seqS (ifM (boolM (op2M isNF (varM 1) (pureM .non))) (retM (op2M isNF (varM 0) (pureM .non))) (pureM .nx)) <|
  seqS (ifM (orM (boolM (isiM [.bool] (varM 1))) (boolM (isiM [.bool] (varM 0)))) (retM (landM (isiM [.bool] (varM 1)) (landM (isiM [.bool] (varM 0)) (op2M eqF (varM 0) (varM 1))))) (pureM .nx)) <|
  seqS (ifM (boolM (isiM [.int] (varM 1))) (retM (landM (isiM [.int] (varM 0)) (op2M eqF (varM 0) (varM 1)))) (pureM .nx)) <|
  seqS (ifM (boolM (isiM [.str] (varM 1))) (retM (landM (isiM [.str] (varM 0)) (op2M eqF (varM 0) (varM 1)))) (pureM .nx)) <|
  seqS (ifM (boolM (isiM [.dct] (varM 1))) (seqS (ifM (orM (notM (boolM (isiM [.dct] (varM 0)))) (boolM (op2M neF (frzM (bindM (varM 0) fun d => optM (sortKF d))) (frzM (bindM (varM 1) fun d => optM (sortKF d)))))) (retM (pureM (.bl false))) (pureM .nx)) <|
  retM (op2M eqF (callB (f1 lenF) (consM (frzM (lcM [3] (itM keysF (varM 1)) (tgN 3) (notM (boolM (frzM (callM self (consR (argV (op2M ixF (varM 0) (varM 3))) (consR (argV (op2M ixF (varM 1) (varM 3))) (pureM []))))))) (varM 3))) (pureM []))) (pureM (.int 0)))) (pureM .nx)) <|
  seqS (ifM (orM (boolM (op2M neF (isiM [.tup] (varM 1)) (isiM [.tup] (varM 0)))) (boolM (op2M neF (isiM [.lst] (varM 1)) (isiM [.lst] (varM 0))))) (retM (pureM (.bl false))) (pureM .nx)) <|
  seqS (ifM (orM (notM (boolM (isiM [.tup, .lst] (varM 0)))) (boolM (op2M neF (callB (f1 lenF) (consM (varM 0) (pureM []))) (callB (f1 lenF) (consM (varM 1) (pureM [])))))) (retM (pureM (.bl false))) (pureM .nx)) <|
  seqS (forM (itM rng1F (callB (f1 lenF) (consM (varM 1) (pureM [])))) (tgN 2) (ifM (notM (boolM (frzM (callM self (consR (argV (op2M ixF (varM 0) (varM 2))) (consR (argV (op2M ixF (varM 1) (varM 2))) (pureM []))))))) (retM (pureM (.bl false))) (pureM .nx))) <|
  retM (pureM (.bl true))
def m__law_told : Nat → List Dv → R
  | 0 => fun _ => .no
  | k + 1 => fnM 2 4 (b__law_told (m__law_told k))
/- _law_fraction: top:0 bottom:1 common:2 -/
def b__law_fraction : M Fw :=
  seqS (ifM (boolM (op2M ltF (varM 1) (pureM (.int 0)))) (parM 0 1 (consM (negM (varM 0)) (consM (negM (varM 1)) (pureM [])))) (pureM .nx)) <|
  seqS (setM 2 (frzM (callM m__law_gcd (consR (argV (callB (f1 absF) (consM (varM 0) (pureM [])))) (consR (argV (varM 1)) (pureM [])))))) <|
  retM (tupM (consM (op2M fdivF (varM 0) (varM 2)) (consM (op2M fdivF (varM 1) (varM 2)) (pureM []))))
def m__law_fraction : List Dv → R := fnM 2 3 b__law_fraction
/- _law_gain: script:0 source:1o style:2 number:3 -/
def b__law_gain : M Fw :=
  seqS (ifM (boolM (op2M eqF (varM 2) (pureM (.int 0)))) (retM (op2M subF (frzM (callM m__law_draw (consR (argV (varM 0)) (consR (argR 1) (consR (argV (pureM (.int 13))) (pureM [])))))) (pureM (.int 6)))) (pureM .nx)) <|
  seqS (ifM (boolM (op2M eqF (varM 2) (pureM (.int 1)))) (retM (op2M subF (frzM (callM m__law_draw (consR (argV (varM 0)) (consR (argR 1) (consR (argV (pureM (.int 3))) (pureM [])))))) (pureM (.int 1)))) (pureM .nx)) <|
  seqS (setM 3 (op2M addF (op2M mulF (frzM (callM m__law_draw (consR (argV (varM 0)) (consR (argR 1) (consR (argV (op2M powF (pureM (.int 10)) (pureM (.int 9)))) (pureM [])))))) (op2M powF (pureM (.int 10)) (pureM (.int 20)))) (frzM (callM m__law_draw (consR (argV (varM 0)) (consR (argR 1) (consR (argV (op2M powF (pureM (.int 10)) (pureM (.int 9)))) (pureM [])))))))) <|
  seqS (ifM (boolM (op2M eqF (frzM (callM m__law_draw (consR (argV (varM 0)) (consR (argR 1) (consR (argV (pureM (.int 2))) (pureM [])))))) (pureM (.int 0)))) (retM (negM (varM 3))) (pureM .nx)) <|
  retM (varM 3)
def m__law_gain : List Dv → R := fnM 3 4 b__law_gain
/- _law_lot: script:0 source:1o count:2 style:3 lot:4o k:5 weight:6 -/
def b__law_lot : M Fw :=
  seqS (setM 3 (frzM (callM m__law_draw (consR (argV (varM 0)) (consR (argR 1) (consR (argV (pureM (.int 4))) (pureM []))))))) <|
  seqS (setO 4 (lstM (pureM []))) <|
  seqS (forM (itM rng1F (varM 2)) (tgN 5) (seqS (setM 6 (frzM (callM m__law_draw (consR (argV (varM 0)) (consR (argR 1) (consR (argV (pureM (.int 5))) (pureM []))))))) <|
  seqS (ifM (andM (boolM (op2M eqF (varM 3) (pureM (.int 0)))) (boolM (op2M ltF (varM 6) (pureM (.int 3))))) (setM 6 (pureM (.int 0))) (pureM .nx)) <|
  appM 4 (varM 6))) <|
  seqS (ifM (orM (boolM (op2M eqF (varM 3) (pureM (.int 1)))) (boolM (op2M eqF (qM sumQ (ownM 4)) (pureM (.int 0))))) (seqS (setO 4 (lcM [5] (itM rng1F (varM 2)) (tgN 5) (pureM true) (pureM (.int 0)))) <|
  setIxM 4 (pureM (.int 1)) (frzM (callM m__law_draw (consR (argV (varM 0)) (consR (argR 1) (consR (argV (varM 2)) (pureM []))))))) (pureM .nx)) <|
  retM (qM tupQF (ownM 4))
def m__law_lot : List Dv → R := fnM 3 7 b__law_lot
/- _law_own_number: word:0 sign:1 -/
def b__law_own_number : M Fw :=
  seqS (ifM (orM (boolM (op2M ltF (callB (f1 lenF) (consM (varM 0) (pureM []))) (pureM (.int 1)))) (orM (boolM (op2M gtF (callB (f1 lenF) (consM (varM 0) (pureM []))) (pureM (.int 40)))) (boolM (op2M gtF (callB (f1 lenF) (consM (frzM (lcM [1] (itM itemF (varM 0)) (tgN 1) (boolM (op2M notInF (varM 1) (pureM (.str "0123456789")))) (varM 1))) (pureM []))) (pureM (.int 0)))))) (retM (pureM .non)) (pureM .nx)) <|
  seqS (ifM (andM (boolM (op2M eqF (op2M ixF (varM 0) (pureM (.int 0))) (pureM (.str "0")))) (boolM (op2M gtF (callB (f1 lenF) (consM (varM 0) (pureM []))) (pureM (.int 1))))) (retM (pureM .non)) (pureM .nx)) <|
  retM (callB (f1 intF1) (consM (varM 0) (pureM [])))
def m__law_own_number : List Dv → R := fnM 1 2 b__law_own_number
/- _law_own_integer: word:0 number:1 -/
def b__law_own_integer : M Fw :=
  seqS (ifM (boolM (op2M eqF (slM slF (varM 0) (pureM none) (partM (pureM (.int 1)))) (pureM (.str "-")))) (seqS (setM 1 (frzM (callM m__law_own_number (consR (argV (slM slF (varM 0) (partM (pureM (.int 1))) (pureM none))) (pureM []))))) <|
  seqS (ifM (orM (boolM (op2M isNF (varM 1) (pureM .non))) (boolM (op2M eqF (varM 1) (pureM (.int 0))))) (retM (pureM .non)) (pureM .nx)) <|
  retM (negM (varM 1))) (pureM .nx)) <|
  retO (callM m__law_own_number (consR (argV (varM 0)) (pureM [])))
def m__law_own_integer : List Dv → R := fnM 1 2 b__law_own_integer
/- _law_own_fraction: word:0 words:1 top:2 bottom:3 -/
def b__law_own_fraction : M Fw :=
  seqS (setM 1 (frzM (splM (varM 0) (pureM (.str "/"))))) <|
  seqS (ifM (boolM (op2M neF (callB (f1 lenF) (consM (varM 1) (pureM []))) (pureM (.int 2)))) (retM (pureM .non)) (pureM .nx)) <|
  seqS (setM 2 (frzM (callM m__law_own_integer (consR (argV (op2M ixF (varM 1) (pureM (.int 0)))) (pureM []))))) <|
  seqS (setM 3 (frzM (callM m__law_own_number (consR (argV (op2M ixF (varM 1) (pureM (.int 1)))) (pureM []))))) <|
  seqS (ifM (orM (boolM (op2M isNF (varM 2) (pureM .non))) (orM (boolM (op2M isNF (varM 3) (pureM .non))) (orM (boolM (op2M eqF (varM 3) (pureM (.int 0)))) (boolM (op2M neF (frzM (callM m__law_gcd (consR (argV (callB (f1 absF) (consM (varM 2) (pureM [])))) (consR (argV (varM 3)) (pureM []))))) (pureM (.int 1))))))) (retM (pureM .non)) (pureM .nx)) <|
  retM (tupM (consM (varM 2) (consM (varM 3) (pureM []))))
def m__law_own_fraction : List Dv → R := fnM 1 4 b__law_own_fraction
/- _law_own_gain: line:0 words:1 pair:2 -/
def b__law_own_gain : M Fw :=
  seqS (setM 1 (frzM (splM (varM 0) (pureM (.str " "))))) <|
  seqS (ifM (orM (boolM (op2M neF (callB (f1 lenF) (consM (varM 1) (pureM []))) (pureM (.int 4)))) (orM (boolM (op2M neF (op2M ixF (varM 1) (pureM (.int 0))) (pureM (.str "gain")))) (notM (boolM (frzM (callM m__law_is_name (consR (argV (op2M ixF (varM 1) (pureM (.int 1)))) (pureM [])))))))) (retM (pureM .non)) (pureM .nx)) <|
  seqS (setM 2 (tupM (consM (frzM (callM m__law_own_integer (consR (argV (op2M ixF (varM 1) (pureM (.int 2)))) (pureM [])))) (consM (frzM (callM m__law_own_integer (consR (argV (op2M ixF (varM 1) (pureM (.int 3)))) (pureM [])))) (pureM []))))) <|
  seqS (ifM (orM (boolM (op2M isNF (op2M ixF (varM 2) (pureM (.int 0))) (pureM .non))) (boolM (op2M isNF (op2M ixF (varM 2) (pureM (.int 1))) (pureM .non)))) (retM (pureM .non)) (pureM .nx)) <|
  retM (tupM (consM (op2M ixF (varM 1) (pureM (.int 1))) (consM (varM 2) (pureM []))))
def m__law_own_gain : List Dv → R := fnM 1 3 b__law_own_gain
/- _law_own_lot: line:0 words:1 lot:2 word:3 -/
def b__law_own_lot : M Fw :=
  seqS (setM 1 (frzM (splM (varM 0) (pureM (.str " "))))) <|
  seqS (setM 2 (callB (f1 tupF1) (consM (frzM (lcM [3] (itM itemF (slM slF (varM 1) (partM (pureM (.int 1))) (pureM none))) (tgN 3) (pureM true) (frzM (callM m__law_own_number (consR (argV (varM 3)) (pureM [])))))) (pureM [])))) <|
  seqS (ifM (orM (boolM (op2M neF (op2M ixF (varM 1) (pureM (.int 0))) (pureM (.str "lot")))) (orM (boolM (op2M eqF (callB (f1 lenF) (consM (varM 2) (pureM []))) (pureM (.int 0)))) (orM (boolM (op2M inF (pureM .non) (varM 2))) (boolM (op2M eqF (qM (mmQ maxL) (seqM (varM 2))) (pureM (.int 0))))))) (retM (pureM .non)) (pureM .nx)) <|
  retM (varM 2)
def m__law_own_lot : List Dv → R := fnM 1 4 b__law_own_lot
/- _law_own_parts: word:0 line:1 words:2 parts:3 one:4 -/
def b__law_own_parts : M Fw :=
  seqS (setM 2 (frzM (splM (varM 1) (pureM (.str " "))))) <|
  seqS (setM 3 (callB (f1 tupF1) (consM (frzM (lcM [4] (itM itemF (slM slF (varM 2) (partM (pureM (.int 1))) (pureM none))) (tgN 4) (pureM true) (frzM (callM m__law_own_fraction (consR (argV (varM 4)) (pureM [])))))) (pureM [])))) <|
  seqS (ifM (orM (boolM (op2M neF (op2M ixF (varM 2) (pureM (.int 0))) (varM 0))) (boolM (op2M inF (pureM .non) (varM 3)))) (retM (pureM .non)) (pureM .nx)) <|
  retM (varM 3)
def m__law_own_parts : List Dv → R := fnM 2 5 b__law_own_parts
/- _law_bent: script:0 source:1o line:2 words:3 at:4 odd:5 kind:6 new:7 -/
def b__law_bent : M Fw :=
  seqS (setM 3 (frzM (splM (varM 2) (pureM (.str " "))))) <|
  seqS (setM 4 (frzM (callM m__law_draw (consR (argV (varM 0)) (consR (argR 1) (consR (argV (callB (f1 lenF) (consM (varM 3) (pureM [])))) (pureM []))))))) <|
  seqS (setM 5 (frzM (lstM (consM (pureM (.str "")) (consM (pureM (.str "-0")) (consM (pureM (.str "00")) (consM (pureM (.str "1/0")) (consM (pureM (.str "2/4")) (consM (pureM (.str "-1/3")) (consM (pureM (.str "gain")) (consM (pureM (.str "lot")) (consM (pureM (.str "A")) (consM (pureM (.str "0")) (consM (pureM (.str "-5")) (consM (op2M mulSF (pureM (.str "9")) (pureM (.int 41))) (consM (pureM (.str "1/")) (consM (pureM (.str "a")) (pureM [])))))))))))))))))) <|
  seqS (setM 6 (frzM (callM m__law_draw (consR (argV (varM 0)) (consR (argR 1) (consR (argV (pureM (.int 4))) (pureM []))))))) <|
  seqS (setM 7 (op2M ixF (varM 5) (frzM (callM m__law_draw (consR (argV (varM 0)) (consR (argR 1) (consR (argV (pureM (.int 14))) (pureM [])))))))) <|
  seqS (ifM (boolM (op2M eqF (varM 6) (pureM (.int 0)))) (setM 3 (op2M addF (slM slF (varM 3) (pureM none) (partM (varM 4))) (slM slF (varM 3) (partM (op2M addF (varM 4) (pureM (.int 1)))) (pureM none)))) (ifM (boolM (op2M eqF (varM 6) (pureM (.int 1)))) (setM 3 (frzM (catM (frzM (catM (slM slF (varM 3) (pureM none) (partM (varM 4))) (seqM (frzM (lstM (consM (varM 7) (pureM []))))))) (seqM (slM slF (varM 3) (partM (varM 4)) (pureM none)))))) (ifM (boolM (op2M eqF (varM 6) (pureM (.int 2)))) (setM 3 (frzM (catM (frzM (catM (slM slF (varM 3) (pureM none) (partM (varM 4))) (seqM (frzM (lstM (consM (varM 7) (pureM []))))))) (seqM (slM slF (varM 3) (partM (op2M addF (varM 4) (pureM (.int 1)))) (pureM none)))))) (setM 3 (frzM (catM (frzM (catM (slM slF (varM 3) (pureM none) (partM (varM 4))) (seqM (frzM (lstM (consM (op2M addF (op2M ixF (varM 3) (varM 4)) (op2M ixF (frzM (lstM (consM (pureM (.str "-")) (consM (pureM (.str "0")) (consM (pureM (.str "/")) (consM (pureM (.str "x")) (consM (pureM (.str "")) (pureM [])))))))) (frzM (callM m__law_draw (consR (argV (varM 0)) (consR (argR 1) (consR (argV (pureM (.int 5))) (pureM [])))))))) (pureM []))))))) (seqM (slM slF (varM 3) (partM (op2M addF (varM 4) (pureM (.int 1)))) (pureM none))))))))) <|
  retM (joinM (pureM (.str " ")) (seqM (varM 3)))
def m__law_bent : List Dv → R := fnM 3 8 b__law_bent
/- _law_lines_fault: lines:0 last:1 k:2 found:3 -/
def b__law_lines_fault : M Fw :=
  seqS (setM 1 (pureM (.str ""))) <|
  seqS (forM (itM rng1F (callB (f1 lenF) (consM (varM 0) (pureM [])))) (tgN 2) (seqS (setM 3 (frzM (callM m__law_own_gain (consR (argV (op2M ixF (varM 0) (varM 2))) (pureM []))))) <|
  seqS (ifM (orM (boolM (op2M isNF (varM 3) (pureM .non))) (notM (boolM (op2M ltF (varM 1) (op2M ixF (varM 3) (pureM (.int 0))))))) (retM (op2M addF (varM 2) (pureM (.int 1)))) (pureM .nx)) <|
  setM 1 (op2M ixF (varM 3) (pureM (.int 0))))) <|
  retM (pureM (.int 0))
def m__law_lines_fault : List Dv → R := fnM 1 4 b__law_lines_fault
/- _law_read_or: text:0 e:1 -/
def b__law_read_or : M Fw :=
  tryM (retO (callM m_read_gains (consR (argV (varM 0)) (pureM [])))) ([⟨fun x => cat_BadText.lookup x, some 1, fun c => retM (frzM (lstM (consM (excM 1 (fldF tab_line "line" c)) (consM (excM 1 ((tab_is_BadGame.lookup c.cls).map D.bl)) (pureM [])))))⟩])
def m__law_read_or : List Dv → R := fnM 1 2 b__law_read_or
/- _law_pairs_dict: lines:0 found:1o line:2 one:3 -/
def b__law_pairs_dict : M Fw :=
  seqS (setO 1 (pureM (.k false []))) <|
  seqS (forM (itM itemF (varM 0)) (tgN 2) (seqS (setM 3 (frzM (callM m__law_own_gain (consR (argV (varM 2)) (pureM []))))) <|
  setKM 1 (op2M ixF (varM 3) (pureM (.int 1))) (op2M ixF (varM 3) (pureM (.int 0))))) <|
  retV 1
def m__law_pairs_dict : List Dv → R := fnM 1 4 b__law_pairs_dict
/- law: script:0 source:1o gains:2o used:3o k:4 name:5 lines:6 text:7 lot:8 parts:9 part:10 word:11 wanted:12o line:13 bent:14 at:15 spoilt:16 fault:17 told:18 weight:19 -/
def b_law : M Fw :=
  seqS (setO 1 (ownC (callM m__law_source (consR (argV (varM 0)) (pureM []))))) <|
  seqS (setO 2 (pureM (.k false []))) <|
  seqS (setO 3 (lstM (pureM []))) <|
  seqS (forM (itM rng1F (frzM (callM m__law_draw (consR (argV (varM 0)) (consR (argR 1) (consR (argV (pureM (.int 7))) (pureM []))))))) (tgN 4) (seqS (setM 5 (frzM (callM m__law_name (consR (argV (varM 0)) (consR (argR 1) (consR (argB 3) (pureM []))))))) <|
  seqS (appM 3 (varM 5)) <|
  setKM 2 (tupM (consM (frzM (callM m__law_gain (consR (argV (varM 0)) (consR (argR 1) (consR (argV (op2M ixF (frzM (lstM (consM (pureM (.int 0)) (consM (pureM (.int 2)) (pureM []))))) (frzM (callM m__law_draw (consR (argV (varM 0)) (consR (argR 1) (consR (argV (pureM (.int 2))) (pureM [])))))))) (pureM [])))))) (consM (frzM (callM m__law_gain (consR (argV (varM 0)) (consR (argR 1) (consR (argV (pureM (.int 0))) (pureM [])))))) (pureM [])))) (varM 5))) <|
  seqS (frzS 2 (setM 6 (frzM (lcM [5] (itM itemF (frzM (bindM (varM 2) fun d => optM (sortKF d)))) (tgN 5) (pureM true) (op2M addF (op2M addF (op2M addF (op2M addF (op2M addF (pureM (.str "gain ")) (varM 5)) (pureM (.str " "))) (callB (f1 strF1) (consM (op2M ixF (op2M ixF (varM 2) (varM 5)) (pureM (.int 0))) (pureM [])))) (pureM (.str " "))) (callB (f1 strF1) (consM (op2M ixF (op2M ixF (varM 2) (varM 5)) (pureM (.int 1))) (pureM [])))))))) <|
  seqS (setM 7 (joinM (pureM (.str "\n")) (seqM (varM 6)))) <|
  seqS (ifM (orM (notM (boolM (frzM (callM (m__law_told 39) (consR (argV (frzM (callM m_format_gains (consR (argV (varM 2)) (pureM []))))) (consR (argV (varM 7)) (pureM []))))))) (notM (boolM (frzM (callM (m__law_told 39) (consR (argV (frzM (callM m_read_gains (consR (argV (varM 7)) (pureM []))))) (consR (argV (varM 2)) (pureM [])))))))) (retM (pureM (.bl false))) (pureM .nx)) <|
  seqS (setM 8 (frzM (callM m__law_lot (consR (argV (varM 0)) (consR (argR 1) (consR (argV (op2M addF (pureM (.int 1)) (frzM (callM m__law_draw (consR (argV (varM 0)) (consR (argR 1) (consR (argV (pureM (.int 8))) (pureM [])))))))) (pureM []))))))) <|
  seqS (setM 9 (callB (f1 tupF1) (consM (frzM (lcM [4] (itM rng1F (pureM (.int 4))) (tgN 4) (pureM true) (frzM (callM m__law_fraction (consR (argV (frzM (callM m__law_gain (consR (argV (varM 0)) (consR (argR 1) (consR (argV (pureM (.int 0))) (pureM []))))))) (consR (argV (op2M addF (pureM (.int 1)) (frzM (callM m__law_draw (consR (argV (varM 0)) (consR (argR 1) (consR (argV (pureM (.int 30))) (pureM [])))))))) (pureM []))))))) (pureM [])))) <|
  seqS (setM 9 (slM slF (varM 9) (pureM none) (partM (frzM (callM m__law_draw (consR (argV (varM 0)) (consR (argR 1) (consR (argV (pureM (.int 5))) (pureM []))))))))) <|
  seqS (forM (itM itemF (varM 9)) (tgN 10) (seqS (setM 11 (op2M addF (op2M addF (callB (f1 strF1) (consM (op2M ixF (varM 10) (pureM (.int 0))) (pureM []))) (pureM (.str "/"))) (callB (f1 strF1) (consM (op2M ixF (varM 10) (pureM (.int 1))) (pureM []))))) <|
  ifM (orM (notM (boolM (frzM (callM (m__law_told 39) (consR (argV (frzM (callM m_format_fraction (consR (argV (varM 10)) (pureM []))))) (consR (argV (varM 11)) (pureM []))))))) (notM (boolM (frzM (callM (m__law_told 39) (consR (argV (frzM (callM m_fraction_in (consR (argV (varM 11)) (pureM []))))) (consR (argV (varM 10)) (pureM [])))))))) (retM (pureM (.bl false))) (pureM .nx))) <|
  seqS (setO 12 (lstM (consM (joinM (pureM (.str " ")) (seqM (frzM (catM (frzM (lstM (consM (pureM (.str "lot")) (pureM [])))) (seqM (frzM (lcM [19] (itM itemF (varM 8)) (tgN 19) (pureM true) (callB (f1 strF1) (consM (varM 19) (pureM [])))))))))) (pureM [])))) <|
  seqS (appM 12 (joinM (pureM (.str " ")) (seqM (frzM (catM (frzM (lstM (consM (pureM (.str "prices")) (pureM [])))) (seqM (frzM (lcM [10] (itM itemF (varM 9)) (tgN 10) (pureM true) (op2M addF (op2M addF (callB (f1 strF1) (consM (op2M ixF (varM 10) (pureM (.int 0))) (pureM []))) (pureM (.str "/"))) (callB (f1 strF1) (consM (op2M ixF (varM 10) (pureM (.int 1))) (pureM [])))))))))))) <|
  seqS (ifM (orM (notM (boolM (frzM (callM (m__law_told 39) (consR (argV (frzM (callM m_format_lot (consR (argV (varM 8)) (pureM []))))) (consR (argV (ixOM 12 (pureM (.int 0)))) (pureM []))))))) (notM (boolM (frzM (callM (m__law_told 39) (consR (argV (frzM (callM m_format_parts (consR (argV (pureM (.str "prices"))) (consR (argV (varM 9)) (pureM [])))))) (consR (argV (ixOM 12 (pureM (.int 1)))) (pureM [])))))))) (retM (pureM (.bl false))) (pureM .nx)) <|
  seqS (ifM (orM (notM (boolM (frzM (callM (m__law_told 39) (consR (argV (frzM (callM m_read_lot (consR (argV (ixOM 12 (pureM (.int 0)))) (pureM []))))) (consR (argV (varM 8)) (pureM []))))))) (notM (boolM (frzM (callM (m__law_told 39) (consR (argV (frzM (callM m_read_parts (consR (argV (pureM (.str "prices"))) (consR (argV (ixOM 12 (pureM (.int 1)))) (pureM [])))))) (consR (argV (varM 9)) (pureM [])))))))) (retM (pureM (.bl false))) (pureM .nx)) <|
  seqS (forM (itM rng1F (pureM (.int 3))) (tgN 4) (forM (itM itemF (frzM (catOM 12 (seqM (frzM (lstM (consM (pureM (.str "gain ab -12 40")) (pureM [])))))))) (tgN 13) (seqS (setM 14 (frzM (callM m__law_bent (consR (argV (varM 0)) (consR (argR 1) (consR (argV (varM 13)) (pureM []))))))) <|
  seqS (ifM (orM (notM (boolM (frzM (callM (m__law_told 39) (consR (argV (frzM (callM m_read_lot (consR (argV (varM 14)) (pureM []))))) (consR (argV (frzM (callM m__law_own_lot (consR (argV (varM 14)) (pureM []))))) (pureM []))))))) (notM (boolM (frzM (callM (m__law_told 39) (consR (argV (frzM (callM m_read_gain (consR (argV (varM 14)) (pureM []))))) (consR (argV (frzM (callM m__law_own_gain (consR (argV (varM 14)) (pureM []))))) (pureM [])))))))) (retM (pureM (.bl false))) (pureM .nx)) <|
  seqS (ifM (notM (boolM (frzM (callM (m__law_told 39) (consR (argV (frzM (callM m_read_parts (consR (argV (pureM (.str "prices"))) (consR (argV (varM 14)) (pureM [])))))) (consR (argV (frzM (callM m__law_own_parts (consR (argV (pureM (.str "prices"))) (consR (argV (varM 14)) (pureM [])))))) (pureM []))))))) (retM (pureM (.bl false))) (pureM .nx)) <|
  forM (itM itemF (frzM (splM (varM 14) (pureM (.str " "))))) (tgN 11) (seqS (ifM (notM (boolM (frzM (callM (m__law_told 39) (consR (argV (frzM (callM m_integer_in (consR (argV (varM 11)) (pureM []))))) (consR (argV (frzM (callM m__law_own_integer (consR (argV (varM 11)) (pureM []))))) (pureM []))))))) (retM (pureM (.bl false))) (pureM .nx)) <|
  ifM (notM (boolM (frzM (callM (m__law_told 39) (consR (argV (frzM (callM m_fraction_in (consR (argV (varM 11)) (pureM []))))) (consR (argV (frzM (callM m__law_own_fraction (consR (argV (varM 11)) (pureM []))))) (pureM []))))))) (retM (pureM (.bl false))) (pureM .nx))))) <|
  seqS (ifM (boolM (op2M gtF (callB (f1 lenF) (consM (varM 6) (pureM []))) (pureM (.int 0)))) (seqS (setM 15 (frzM (callM m__law_draw (consR (argV (varM 0)) (consR (argR 1) (consR (argV (callB (f1 lenF) (consM (varM 6) (pureM [])))) (pureM []))))))) <|
  seqS (setM 16 (frzM (catM (frzM (catM (slM slF (varM 6) (pureM none) (partM (varM 15))) (seqM (frzM (lstM (consM (frzM (callM m__law_bent (consR (argV (varM 0)) (consR (argR 1) (consR (argV (op2M ixF (varM 6) (varM 15))) (pureM [])))))) (pureM []))))))) (seqM (slM slF (varM 6) (partM (op2M addF (varM 15) (pureM (.int 1)))) (pureM none)))))) <|
  seqS (ifM (boolM (op2M eqF (frzM (callM m__law_draw (consR (argV (varM 0)) (consR (argR 1) (consR (argV (pureM (.int 3))) (pureM [])))))) (pureM (.int 0)))) (setM 16 (op2M addF (slM slF (varM 6) (partM (varM 15)) (pureM none)) (slM slF (varM 6) (pureM none) (partM (varM 15))))) (pureM .nx)) <|
  seqS (setM 17 (frzM (callM m__law_lines_fault (consR (argV (varM 16)) (pureM []))))) <|
  seqS (setM 18 (frzM (callM m__law_read_or (consR (argV (joinM (pureM (.str "\n")) (seqM (varM 16)))) (pureM []))))) <|
  seqS (ifM (boolM (op2M eqF (varM 16) (frzM (lstM (consM (pureM (.str "")) (pureM [])))))) (retO (callM (m__law_told 39) (consR (argV (varM 18)) (consR (argV (frzM (pureM (.k false [])))) (pureM []))))) (pureM .nx)) <|
  seqS (ifM (boolM (op2M gtF (varM 17) (pureM (.int 0)))) (retO (callM (m__law_told 39) (consR (argV (varM 18)) (consR (argV (frzM (lstM (consM (varM 17) (consM (pureM (.bl false)) (pureM [])))))) (pureM []))))) (pureM .nx)) <|
  retO (callM (m__law_told 39) (consR (argV (varM 18)) (consR (argV (frzM (callM m__law_pairs_dict (consR (argV (varM 16)) (pureM []))))) (pureM []))))) (pureM .nx)) <|
  retM (pureM (.bl true))
def m_law : List Dv → R := fnM 1 20 b_law
end Lk
end
end

section
set_option Elab.async false
set_option linter.all false
set_option maxRecDepth 100000
set_option autoImplicit false
set_option maxHeartbeats 1000000
namespace Lk
open Fl PySem
local macro_rules | `(tactic| fail) => `(tactic| first
  | with_reducible first
    | refine tr_seqS ?_ | refine tr_op2 ?_ | refine tr_pure ?_ | refine tr_setM ?_ | refine tr_ifM ?_ | refine tr_boolM ?_ | refine tr_callB ?_ | refine tr_consM ?_ | refine tr_setIxM ?_ | refine tr_andM ?_ | refine tr_orM ?_ | refine tr_notM ?_ | refine tr_retM ?_
    | refine tr_frzM ?_ | refine tr_callM ?_ | refine tr_consR ?_ | refine tr_argV ?_ | refine tr_forM ?_ | refine tr_itM ?_ | refine tr_setO ?_ | refine tr_lstM ?_ | refine tr_tupM ?_ | refine tr_bind ?_
    | refine tr_landM ?_ | refine tr_lorM ?_ | refine tr_bM ?_ | refine tr_ownC ?_ | refine tr_retO ?_ | refine tr_exprM ?_ | refine tr_seqM ?_ | refine tr_qM ?_ | refine tr_qN ?_ | refine tr_isiM ?_ | refine tr_negM ?_ | refine tr_bitsM ?_ | refine tr_partM ?_ | refine tr_slM ?_ | refine tr_chainM ?_ | refine tr_parM ?_
    | refine tr_consN ?_ | refine tr_newM ?_ | refine tr_callN ?_ | refine tr_asgM ?_ | refine tr_lcM ?_
  | refine tr_var rfl ?_ | refine tr_ixOM rfl ?_ | refine tr_argR rfl rfl ?_ | refine tr_argB rfl rfl ?_ | refine tr_appM rfl ?_ | refine tr_retV rfl ?_ | refine tr_ownM rfl ?_
  | refine tr_opt rfl ?_
  | with_reducible refine tr_mul (by first | exact .inl (.inr ⟨by decide, by decide⟩) | exact .inl (.inl ⟨by omega, by omega⟩)) ?_
  | with_reducible refine tr_mod (by first | decide | omega) ?_
  | with_reducible refine tr_fdiv (by first | decide | assumption) ?_
  | (refine ⟨_, _, _, _, rfl, rfl, rfl, ?_⟩; dsimp only [List.set])
  | refine ⟨_, _, rfl, ?_⟩
  | (refine ⟨rfl, ?_⟩; dsimp only [List.set]))
theorem draw_rs {ns : List Int} {a b c lim : Int} {P : Dv → List Dv → Prop} (ha : 0 ≤ a) (hc : 0 ≤ c ∧ c < 2147483648) (hl : 0 < lim ∧ lim.natAbs.log2 < 9000)
    (h : ∀ v a' b' c' : Int, 0 ≤ v → v < lim → 0 ≤ a' → (0 ≤ c' ∧ c' < 2147483648) → P (.p (.int v)) [.p (.scr ns), .o true [.int a', .int b', .int c'], .p (.int lim)]) : RS (m__law_draw [.p (.scr ns), .o true [.int a, .int b, .int c], .p (.int lim)]) P := by
  have hm : ∀ x : Int, 0 ≤ x % lim ∧ x % lim < lim := fun x => ⟨Int.emod_nonneg _ (by omega), Int.emod_lt_of_pos _ hl.1⟩
  have h7 : ∀ x : Int, 0 ≤ x % 2147483647 ∧ x % 2147483647 < 2147483648 := fun x => ⟨Int.emod_nonneg _ (by omega), by have := Int.emod_lt_of_pos x (show (0 : Int) < 2147483647 by omega); omega⟩
  have hl1 := hl.1
  refine rs_fn rfl ?_
  show Tr (b__law_draw [some (.p (.scr ns)), some (.o true [.int a, .int b, .int c]), some (.p (.int lim)), none, none]) _
  unfold b__law_draw
  refine tr_seqI (fun ρ1 => ∃ (a' b' : Int) (x : Option Dv), 0 ≤ a' ∧ okSlot [x] 0 = true ∧ ρ1 = [some (.p (.scr ns)), some (.o true [.int a', .int b', .int c]), some (.p (.int lim)), x, none]) ?_ ?_
  · repeat fail
    refine tr_ite (fun h1 => ?_) (fun h1 => ?_)
    · repeat fail
      refine tr_ite (fun h2 => ?_) (fun h2 => ?_)
      · have hlt : a < (List.map D.int ns).length := of_decide_eq_true h2
        rw [List.length_map] at hlt
        repeat fail
        refine tr_ixScr ha hlt fun v => ?_
        repeat fail
        refine tr_ite (fun h3 => ?_) (fun h3 => ?_)
        · repeat fail
          exact ⟨_, _, _, by omega, rfl, rfl⟩
        · repeat fail
          exact ⟨_, _, _, by omega, rfl, rfl⟩
      · exact ⟨_, _, _, ha, rfl, rfl⟩
    · exact ⟨_, _, _, ha, rfl, rfl⟩
  · rintro ρ1 ⟨a', b', x, h0, hx, rfl⟩
    repeat fail
    refine tr_ite (fun h1 => ?_) (fun h1 => ?_)
    · repeat fail
      exact h _ _ _ _ (hm _).1 (hm _).2 h0 hc
    · repeat fail
      exact h _ _ _ _ (hm _).1 (hm _).2 h0 (h7 _)
theorem lim_ok {l : Int} (h0 : 0 < l) (h1 : l < 2 ^ 200) : 0 < l ∧ l.natAbs.log2 < 9000 := by
  refine ⟨h0, ?_⟩
  have h2 : l.natAbs < 2 ^ 200 := by omega
  have h3 : l.natAbs.log2 < 200 := (Nat.log2_lt (by omega)).mpr h2
  omega
theorem source_rs {ns : List Int} {P : Dv → List Dv → Prop} (h : ∀ c : Int, (0 ≤ c ∧ c < 2147483648) → P (.o false [.int 0, .int 0, .int c]) [.p (.scr ns)]) : RS (m__law_source [.p (.scr ns)]) P := by
  have h7 : ∀ x : Int, 0 ≤ x % 2147483647 ∧ x % 2147483647 < 2147483648 := fun x => ⟨Int.emod_nonneg _ (by omega), by have := Int.emod_lt_of_pos x (show (0 : Int) < 2147483647 by omega); omega⟩
  refine rs_fn rfl ?_
  show Tr (b__law_source [some (.p (.scr ns)), none, none]) _
  unfold b__law_source
  refine tr_seqI (fun ρ1 => ρ1 = [some (.p (.scr ns)), some (.p (.int 20011)), none]) (by repeat fail) ?_
  rintro _ rfl
  refine tr_seqI (fun ρ1 => ∃ (c : Int) (x : Option Dv), (0 ≤ c ∧ c < 2147483648) ∧ okSlot [x] 0 = true ∧ ρ1 = [some (.p (.scr ns)), some (.p (.int c)), x]) ?_ ?_
  · repeat fail
    refine forL_inv (fun _ ρ1 => ∃ (c : Int) (x : Option Dv), (0 ≤ c ∧ c < 2147483648) ∧ okSlot [x] 0 = true ∧ ρ1 = [some (.p (.scr ns)), some (.p (.int c)), x]) _ 0 _ ⟨20011, none, by omega, rfl, rfl⟩ ?_ (fun _ q => q)
    rintro i d ρ1 hd ⟨c, x, hc, hx, rfl⟩
    rw [List.getElem?_map] at hd
    obtain ⟨n, _, rfl⟩ := Option.map_eq_some_iff.mp hd
    refine ⟨[some (.p (.scr ns)), some (.p (.int c)), some (.p (.int n))], ?_, ?_⟩
    · have : okSlot [some (.p (.scr ns)), some (.p (.int c)), x] 2 = true := hx
      unfold tgN
      rw [if_pos this]
      rfl
    · repeat fail
      exact ⟨_, _, h7 _, rfl, rfl⟩
  · rintro _ ⟨c, x, hc, hx, rfl⟩
    repeat fail
    refine ⟨by show 3 ≤ 2 ^ 24; omega, h c hc⟩
theorem tr_draw {ns : List Int} {ρ : Fl.Env} {j : Nat} {io : Bool} {a b c lim : Int} {P : Dv → Fl.Env → Prop} (e : ρ[j]? = some (some (.o io [.int a, .int b, .int c]))) (ha : 0 ≤ a) (hc : 0 ≤ c ∧ c < 2147483648) (hl : 0 < lim ∧ lim.natAbs.log2 < 9000)
    (h : ∀ v a' b' c' : Int, 0 ≤ v → v < lim → 0 ≤ a' → (0 ≤ c' ∧ c' < 2147483648) → P (.p (.int v)) (ρ.set j (some (.o io [.int a', .int b', .int c'])))) : Tr (callC m__law_draw [.v (.scr ns), .r j, .v (.int lim)] ρ) P := by
  have e1 : argsOf ρ [.v (.scr ns), .r j, .v (.int lim)] = some [.p (.scr ns), .o true [.int a, .int b, .int c], .p (.int lim)] := by
    unfold argsOf argsOf argsOf
    rw [e]
    rfl
  refine tr_call e1 rfl rfl (draw_rs ha hc hl fun v a' b' c' h1 h2 h3 h4 => ?_)
  have e2 : updP (refsOf [.v (.scr ns), .r j, .v (.int lim)] [.p (.scr ns), .o true [.int a', .int b', .int c'], .p (.int lim)]) ρ = ρ.set j (some (.o io [.int a', .int b', .int c'])) := by
    show ρ.set j (some (Dv.setIo (ioAt ρ j) (.o true [.int a', .int b', .int c']))) = _
    unfold ioAt
    rw [e]
    rfl
  rw [e2]
  exact h v a' b' c' h1 h2 h3 h4
theorem tgN_ok {ρ : Fl.Env} {i : Nat} {d : D} (h : okSlot ρ i = true) : tgN i d ρ = some (ρ.set i (some (.p d))) := if_pos h
theorem str_small : ∀ k : Nat, k < 1000 → SOk 3 (toString (k : Int) : String) := by
  have h : ∀ k : Fin 1000, decide (((toString ((k : Nat) : Int) : String) : Str).length ≤ 3) && PyData.strOk (toString ((k : Nat) : Int) : String) = true := by decide +kernel
  intro k hk
  have z := h ⟨k, hk⟩
  simp only [Bool.and_eq_true, decide_eq_true_eq] at z
  exact z
theorem letters_ok : SOk 26 ("abcdefghijklmnopqrstuvwxyz" : Str) := ⟨by decide +kernel, by decide +kernel⟩
theorem digits_ok : SOk 10 ("0123456789" : Str) := ⟨by decide +kernel, by decide +kernel⟩
theorem name_rs {ns : List Int} {us : List Str} {a b c : Int} {P : Dv → List Dv → Prop} (ha : 0 ≤ a) (hc : 0 ≤ c ∧ c < 2147483648) (hu : ∀ s ∈ us, PyData.strOk s = true) (hlen : us.length ≤ 900)
    (h : ∀ (s : Str) (a' b' c' : Int), SOk 10 s → 0 ≤ a' → (0 ≤ c' ∧ c' < 2147483648) → P (.p (.str s)) [.p (.scr ns), .o true [.int a', .int b', .int c'], .p (.lst (us.map D.str))]) :
    RS (m__law_name [.p (.scr ns), .o true [.int a, .int b, .int c], .p (.lst (us.map D.str))]) P := by
  have signs_ok : SOk 36 (("abcdefghijklmnopqrstuvwxyz" : Str) ++ ("0123456789" : Str)) := letters_ok.append digits_ok
  refine rs_fn rfl ?_
  show Tr (b__law_name [some (.p (.scr ns)), some (.o true [.int a, .int b, .int c]), some (.p (.lst (us.map D.str))), none, none, none, none, none]) _
  unfold b__law_name
  repeat fail
  refine tr_draw rfl ha hc (lim_ok (by decide) (by decide)) fun v a b c h1 h2 ha hc => ?_
  dsimp only [List.set]
  repeat fail
  refine tr_ixStr (by decide +kernel) h1 (by show v < 26; exact h2) fun ch hch => ?_
  have hn : SOk 1 ⟨#[ch]⟩ := letters_ok.sign hch
  generalize (⟨#[ch]⟩ : Str) = nm at hn ⊢
  repeat fail
  refine tr_draw rfl ha hc (lim_ok (by decide) (by decide)) fun v2 a b c h3 h4 ha hc => ?_
  dsimp only [List.set]
  repeat fail
  refine tr_rng (by omega) (by omega) ?_
  have hk : ∀ x : Option Dv, okSlot [x] 0 = true → ∀ (ρ : Fl.Env), True := fun _ _ _ => trivial
  refine (forL_inv (P := fun fl ρ1 => ∃ (nm : Str) (a b c : Int) (x : Option Dv), fl = .nx ∧ SOk 4 nm ∧ 0 ≤ a ∧ (0 ≤ c ∧ c < 2147483648) ∧ okSlot [x] 0 = true ∧ ρ1 = [some (.p (.scr ns)), some (.o true [.int a, .int b, .int c]), some (.p (.lst (us.map D.str))), some (.p (.str "abcdefghijklmnopqrstuvwxyz")), some (.p (.str ("abcdefghijklmnopqrstuvwxyz" ++ "0123456789"))), some (.p (.str nm)), x, none])
    (fun i ρ1 => ∃ (nm : Str) (a b c : Int) (x : Option Dv), SOk (1 + i) nm ∧ 0 ≤ a ∧ (0 ≤ c ∧ c < 2147483648) ∧ okSlot [x] 0 = true ∧ ρ1 = [some (.p (.scr ns)), some (.o true [.int a, .int b, .int c]), some (.p (.lst (us.map D.str))), some (.p (.str "abcdefghijklmnopqrstuvwxyz")), some (.p (.str ("abcdefghijklmnopqrstuvwxyz" ++ "0123456789"))), some (.p (.str nm)), x, none]) _ 0 _ ⟨nm, a, b, c, none, hn, ha, hc, rfl, rfl⟩ ?_ ?_).mono ?_
  · rintro i d ρ1 hd ⟨nm, a, b, c, x, hn, ha, hc, hx, rfl⟩
    obtain ⟨rfl, hi⟩ := rng_get hd
    refine ⟨_, tgN_ok hx, ?_⟩
    dsimp only [List.set]
    repeat fail
    refine tr_draw rfl ha hc (lim_ok (by decide) (by decide)) fun v a b c h1 h2 ha hc => ?_
    dsimp only [List.set]
    repeat fail
    refine tr_ixStr (by decide +kernel) h1 (by show v < 36; exact h2) fun ch hch => ?_
    refine tr_addS hn (signs_ok.sign hch) (by omega) fun hs => ?_
    repeat fail
    exact ⟨_, _, _, _, _, by rw [show 1 + (0 + i + 1) = 1 + (0 + i) + 1 by omega]; exact hs, ha, hc, rfl, rfl⟩
  · rintro ρ1 ⟨nm, a, b, c, x, hn, ha, hc, hx, e⟩
    rw [rngF_len] at hn
    exact ⟨nm, a, b, c, x, rfl, hn.mono (by omega), ha, hc, hx, e⟩
  rintro _ _ ⟨nm, a, b, c, x, rfl, hn, ha, hc, hx, rfl⟩
  -- p0 ..
  refine tr_seqI (fun ρ1 => ∃ (nm : Str) (a b c : Int), SOk 4 nm ∧ 0 ≤ a ∧ (0 ≤ c ∧ c < 2147483648) ∧ ρ1 = [some (.p (.scr ns)), some (.o true [.int a, .int b, .int c]), some (.p (.lst (us.map D.str))), some (.p (.str "abcdefghijklmnopqrstuvwxyz")), some (.p (.str ("abcdefghijklmnopqrstuvwxyz" ++ "0123456789"))), some (.p (.str nm)), x, none]) ?_ ?_
  · repeat fail
    refine tr_draw rfl ha hc (lim_ok (by decide) (by decide)) fun v a b c h1 h2 ha hc => ?_
    dsimp only [List.set]
    repeat fail
    refine tr_ite (fun h1 => ?_) (fun h1 => ?_)
    · repeat fail
      refine ⟨by show 6 ≤ 2 ^ 24; omega, ?_⟩
      repeat fail
      refine tr_draw rfl ha hc (lim_ok (by decide) (by decide)) fun v a b c h1 h2 ha hc => ?_
      dsimp only [List.set]
      repeat fail
      refine tr_ixLst h1 (by show v < 6; exact h2) fun z hz => ?_
      have hz2 : ∃ s : Str, z = .str s ∧ SOk 4 s := by
        simp only [List.mem_cons, List.not_mem_nil, or_false] at hz
        rcases hz with rfl | rfl | rfl | rfl | rfl | rfl <;> exact ⟨_, rfl, by decide +kernel, by decide +kernel⟩
      obtain ⟨s, rfl, hs⟩ := hz2
      repeat fail
      exact ⟨_, _, _, _, hs, ha, hc, rfl⟩
    · exact ⟨_, _, _, _, hn, ha, hc, rfl⟩
  rintro _ ⟨nm, a, b, c, hn, ha, hc, rfl⟩
  repeat fail
  refine tr_rng (by show -(2 ^ 40) < ((us.map D.str).length : Int) + 1; simp only [List.length_map]; omega) (by show ((us.map D.str).length : Int) + 1 < 2 ^ 40; simp only [List.length_map]; omega) ?_
  refine (forL_inv (P := fun fl ρ1 => ∃ (nm1 : Str) (x : Option Dv), fl = .nx ∧ SOk 10 nm1 ∧ okSlot [x] 0 = true ∧ ρ1 = [some (.p (.scr ns)), some (.o true [.int a, .int b, .int c]), some (.p (.lst (us.map D.str))), some (.p (.str "abcdefghijklmnopqrstuvwxyz")), some (.p (.str ("abcdefghijklmnopqrstuvwxyz" ++ "0123456789"))), some (.p (.str nm1)), x, some (.p (.str nm))])
    (fun i ρ1 => ∃ (nm1 : Str) (x : Option Dv), SOk 10 nm1 ∧ okSlot [x] 0 = true ∧ ρ1 = [some (.p (.scr ns)), some (.o true [.int a, .int b, .int c]), some (.p (.lst (us.map D.str))), some (.p (.str "abcdefghijklmnopqrstuvwxyz")), some (.p (.str ("abcdefghijklmnopqrstuvwxyz" ++ "0123456789"))), some (.p (.str nm1)), x, some (.p (.str nm))]) _ 0 _ ⟨nm, x, hn.mono (by omega), hx, rfl⟩ ?_ ?_).mono ?_
  · rintro i d ρ1 hd ⟨nm1, x, hn1, hx, rfl⟩
    obtain ⟨rfl, hi⟩ := rng_get hd
    refine ⟨_, tgN_ok hx, ?_⟩
    dsimp only [List.set]
    simp only [List.length_map] at hi
    repeat fail
    have e1 : inF (.str nm1) (.lst (us.map D.str)) = some (.bl ((us.map D.str).any fun z => PyData.eqv z.py (.str nm1))) := by
      show (inB (.str nm1) (.lst (us.map D.str))).map D.bl = _
      rw [inB_lst hn1.2 (dats_strs 1 us hu)]; rfl
    refine tr_opt e1 ?_
    repeat fail
    refine tr_ite (fun h1 => ?_) (fun h1 => ?_)
    · repeat fail
      refine tr_opt (a := .str (toString (i : Int) : String)) (by
        show (if (i : Int).natAbs.log2 < 1920 then some (D.str (toString (i : Int) : String)) else none) = _
        have h3 : (i : Int).natAbs < 2 ^ 200 := by omega
        by_cases h0 : (i : Int).natAbs = 0
        · rw [h0]; rfl
        · have h4 := (Nat.log2_lt h0).mpr h3
          rw [if_pos (by omega)]) ?_
      repeat fail
      refine tr_addS hn (str_small i (by omega)) (by omega) fun hs => ?_
      repeat fail
      exact ⟨_, _, hs.mono (by omega), rfl, rfl⟩
    · exact ⟨_, _, hn1, rfl, rfl⟩
  · rintro ρ1 ⟨nm1, x, hn1, hx, e⟩
    exact ⟨nm1, x, rfl, hn1, hx, e⟩
  rintro _ _ ⟨nm1, x, rfl, hn1, hx, rfl⟩
  repeat fail
  exact h nm1 a b c hn1 ha hc
theorem bits_le {b : Int} (hb : 0 ≤ b) (hl : b < 2 ^ 200) : b < 2 ^ (Builtin.Int.intBits b) ∧ Builtin.Int.intBits b ≤ 200 := by
  unfold Builtin.Int.intBits
  by_cases h : b = 0
  · subst h; exact ⟨by decide, by decide⟩
  · rw [if_neg (by simpa using h)]
    have h0 : b.natAbs ≠ 0 := by omega
    have h1 : b.natAbs < 2 ^ (b.natAbs.log2 + 1) := (Nat.log2_lt h0).mp (by omega)
    have h2 : b.natAbs.log2 < 200 := (Nat.log2_lt h0).mpr (by omega)
    refine ⟨?_, by omega⟩
    have h3 : ((b.natAbs : Nat) : Int) < ((2 ^ (b.natAbs.log2 + 1) : Nat) : Int) := by exact_mod_cast h1
    rw [Int.natCast_pow] at h3
    have h4 : ((b.natAbs : Nat) : Int) = b := by omega
    rw [h4] at h3
    exact h3
theorem gcd_step {a b : Int} (ha : 0 ≤ a) (hb : 0 < b) : Int.gcd b (a % b) = Int.gcd a b := by
  obtain ⟨m, rfl⟩ := Int.eq_ofNat_of_zero_le ha
  obtain ⟨n, rfl⟩ := Int.eq_ofNat_of_zero_le (Int.le_of_lt hb)
  show Nat.gcd n (m % n) = Nat.gcd m n
  rw [Nat.gcd_comm m n, Nat.gcd_rec n m, Nat.gcd_comm]
theorem gcd_dec {x y : Int} {i N : Nat} (hx : 0 ≤ x) (hy : 0 < y) (hyx : y < x) (h1 : 1 ≤ i) (h : x * y * 2 ^ (i - 1) < 2 ^ (2 * N)) : y * (x % y) * 2 ^ i < 2 ^ (2 * N) := by
  have e1 := Int.mul_ediv_add_emod x y
  have e2 := Int.emod_lt_of_pos x hy
  have e3 := Int.emod_nonneg x (show y ≠ 0 by omega)
  have e4 : 1 ≤ x / y := by
    have := Int.le_ediv_of_mul_le hy (show 1 * y ≤ x by omega)
    exact this
  have e5 : y * 1 ≤ y * (x / y) := Int.mul_le_mul_of_nonneg_left e4 (by omega)
  have e6 : (x % y) * 2 ≤ x := by omega
  obtain ⟨k, rfl⟩ : ∃ k, i = k + 1 := ⟨i - 1, by omega⟩
  rw [show k + 1 - 1 = k by omega] at h
  have p : (0 : Int) ≤ 2 ^ k := Int.le_of_lt (Int.pow_pos (by decide))
  have e7 : y * (x % y) * 2 ^ (k + 1) = ((x % y) * 2) * (y * 2 ^ k) := by
    rw [Int.pow_succ]
    simp only [Int.mul_comm, Int.mul_left_comm, Int.mul_assoc]
  have e8 : x * y * 2 ^ k = x * (y * 2 ^ k) := Int.mul_assoc ..
  rw [e7]
  rw [e8] at h
  exact Int.lt_of_le_of_lt (Int.mul_le_mul_of_nonneg_right e6 (Int.mul_nonneg (by omega) p)) h
theorem gcd_dec0 {x y : Int} {N : Nat} (hy : 0 < y) (h : y < 2 ^ N) : y * (x % y) * 2 ^ 0 < 2 ^ (2 * N) := by
  have e2 := Int.emod_lt_of_pos x hy
  have e3 := Int.emod_nonneg x (show y ≠ 0 by omega)
  have p : (0 : Int) < 2 ^ N := Int.pow_pos (by decide)
  have e4 : y * (x % y) ≤ y * 2 ^ N := Int.mul_le_mul_of_nonneg_left (by omega) (by omega)
  have e5 : y * 2 ^ N < 2 ^ N * 2 ^ N := Int.mul_lt_mul_of_pos_right h p
  rw [Int.pow_zero, Int.mul_one, show 2 * N = N + N by omega, Int.pow_add]
  omega
theorem gcd_end {x y : Int} {N i : Nat} (hx : 0 ≤ x) (hy : 0 ≤ y) (hyx : y < x) (hi : 2 * N + 1 ≤ i) (h : x * y * 2 ^ (i - 1) < 2 ^ (2 * N)) : y = 0 := by
  apply Decidable.byContradiction
  intro hn
  have e1 : (1 : Int) * 1 ≤ x * y := Int.mul_le_mul (by omega) (by omega) (by decide) hx
  obtain ⟨k, rfl⟩ : ∃ k, i = 2 * N + 1 + k := ⟨i - (2 * N + 1), by omega⟩
  rw [show 2 * N + 1 + k - 1 = 2 * N + k by omega, Int.pow_add] at h
  have p : (0 : Int) < 2 ^ (2 * N) := Int.pow_pos (by decide)
  have q : (0 : Int) < 2 ^ k := Int.pow_pos (by decide)
  have e2 : (1 : Int) * (2 ^ (2 * N) * 2 ^ k) ≤ x * y * (2 ^ (2 * N) * 2 ^ k) := Int.mul_le_mul_of_nonneg_right (by omega) (Int.le_of_lt (Int.mul_pos p q))
  have e3 : (2 : Int) ^ (2 * N) * 1 ≤ 2 ^ (2 * N) * 2 ^ k := Int.mul_le_mul_of_nonneg_left (by omega) (Int.le_of_lt p)
  omega
theorem gcd_rs {a b : Int} {P : Dv → List Dv → Prop} (ha : 0 ≤ a) (hb : 0 ≤ b) (hl : b < 2 ^ 200) (h : ∀ wa wb, P (.p (.int (Int.gcd a b : Nat))) [.p (.int wa), .p (.int wb)]) : RS (m__law_gcd [.p (.int a), .p (.int b)]) P := by
  refine rs_fn rfl ?_
  show Tr (b__law_gcd [some (.p (.int a)), some (.p (.int b)), none]) _
  unfold b__law_gcd
  repeat fail
  obtain ⟨hB, hN⟩ := bits_le hb hl
  generalize Builtin.Int.intBits b = N at hB hN ⊢
  refine tr_rng (by show -(2 ^ 40) < 2 * (N : Int) + 2; omega) (by show 2 * (N : Int) + 2 < 2 ^ 40; omega) ?_
  show Tr (forL (rngF 0 (2 * (N : Int) + 2)) _ _ _) _
  have fin : ∀ (x y : Int), 0 ≤ x → y = 0 → Int.gcd x y = Int.gcd a b → x = (Int.gcd a b : Nat) := by
    intro x y hx hy e
    subst hy
    rw [← e, Int.gcd_zero_right]
    omega
  refine forL_inv (fun i ρ1 => ∃ (x y : Int) (k : Option Dv), okSlot [k] 0 = true ∧ 0 ≤ x ∧ 0 ≤ y ∧ Int.gcd x y = Int.gcd a b ∧ ((i = 0 ∧ y = b) ∨ (1 ≤ i ∧ y < x ∧ x * y * 2 ^ (i - 1) < 2 ^ (2 * N))) ∧ ρ1 = [some (.p (.int x)), some (.p (.int y)), k]) _ 0 _ ⟨a, b, none, rfl, ha, hb, rfl, .inl ⟨rfl, rfl⟩, rfl⟩ ?_ ?_
  · rintro i d ρ1 hd ⟨x, y, k, hk, hx, hy, e, hi, rfl⟩
    refine ⟨_, tgN_ok hk, ?_⟩
    dsimp only [List.set]
    repeat fail
    refine tr_ite (fun h1 => ?_) (fun h1 => ?_)
    · repeat fail
      have h2 : y = 0 := by simpa [PyData.eqv] using h1
      rw [fin x y hx h2 e]
      exact h _ _
    · repeat fail
      have h2 : y ≠ 0 := of_decide_eq_false h1
      have hy2 : 0 < y := by omega
      refine tr_mod hy2 ?_
      repeat fail
      refine ⟨rfl, y, x % y, some (.p d), rfl, hy, Int.emod_nonneg x h2, (gcd_step hx hy2).trans e, .inr ⟨by omega, Int.emod_lt_of_pos x hy2, ?_⟩, rfl⟩
      rw [show 0 + i + 1 - 1 = i by omega]
      rcases hi with ⟨h3, h4⟩ | ⟨h3, h4, h5⟩
      · rw [show i = 0 by omega]
        exact gcd_dec0 hy2 (by rw [h4]; exact hB)
      · rw [show 0 + i = i by omega] at h3 h5
        exact gcd_dec hx hy2 h4 h3 h5
  · rintro ρ1 ⟨x, y, k, hk, hx, hy, e, hi, rfl⟩
    rw [rngF_len] at hi
    repeat fail
    rcases hi with ⟨h3, h4⟩ | ⟨h3, h4, h5⟩
    · omega
    · rw [fin x y hx (gcd_end hx hy h4 (by omega) h5) e]
      exact h _ _
theorem tr_gcd {a b : Int} {ρ : Fl.Env} {P : Dv → Fl.Env → Prop} (ha : 0 ≤ a) (hb : 0 ≤ b) (hl : b < 2 ^ 200) (h : P (.p (.int (Int.gcd a b : Nat))) ρ) : Tr (callC m__law_gcd [.v (.int a), .v (.int b)] ρ) P :=
  tr_call rfl rfl rfl (gcd_rs ha hb hl fun _ _ => h)
theorem gcd_lt {a b n : Int} (ha : 0 ≤ a) (hb : 0 ≤ b) (ha2 : a < n) (hb2 : b < n) : (Int.gcd a b : Int) < n := by
  by_cases h : a = 0
  · subst h; rw [Int.gcd_zero_left]; omega
  · have h1 : Int.gcd a b ∣ a.natAbs := Nat.gcd_dvd_left _ _
    have h2 := Nat.le_of_dvd (by omega) h1
    omega
def gfold (c : Int) : List Int → Int
  | [] => c
  | w :: r => gfold (Int.gcd w c : Nat) r
theorem gfold_ok {n : Int} : ∀ (ws : List Int) (c : Int), 0 ≤ c → c < n → (∀ w ∈ ws, 0 ≤ w ∧ w < n) → 0 ≤ gfold c ws ∧ gfold c ws < n
  | [], c, h0, h1, _ => ⟨h0, h1⟩
  | w :: r, c, h0, h1, hw => by
    unfold gfold
    have z := hw w (List.mem_cons_self ..)
    exact gfold_ok r _ (by omega) (gcd_lt z.1 h0 z.2 h1) fun x hx => hw x (List.mem_cons_of_mem _ hx)
/-- an invariant over the rest of a list -/
theorem tr_forR {α : Type} {g : α → D} {f : D → Fl.Env → Option Fl.Env} {b : M Fw} {P : Fw → Fl.Env → Prop} (I : List α → Fl.Env → Prop) : ∀ (xs : List α) (ρ : Fl.Env), I xs ρ →
    (∀ x r ρ, I (x :: r) ρ → ∃ ρ1, f (g x) ρ = some ρ1 ∧ Tr (b ρ1) fun fl ρ2 => match fl with
      | .nx => I r ρ2
      | .ct => I r ρ2
      | .bk => P .nx ρ2
      | .ret w => P (.ret w) ρ2) → (∀ ρ, I [] ρ → P .nx ρ) → Tr (forL (xs.map g) f b ρ) P
  | [], ρ, h, _, e => e ρ h
  | x :: r, ρ, h, st, e => by
    rw [List.map_cons, Tr_forL_cons]
    obtain ⟨ρ1, h1, h2⟩ := st x r ρ h
    refine ⟨ρ1, h1, h2.mono fun fl ρ2 q => ?_⟩
    cases fl with
    | nx => exact tr_forR I r ρ2 q st e
    | ct => exact tr_forR I r ρ2 q st e
    | bk => exact q
    | ret w => exact q
theorem tr_lcR {α : Type} {g : α → D} {vs : List Nat} {f : D → Fl.Env → Option Fl.Env} {mt : M Bool} {me : M D} {P : List D → Fl.Env → Prop} (I : List α → List D → Fl.Env → Prop) (xs : List α) (ρ : Fl.Env) (h0 : I xs [] ρ)
    (st : ∀ x r acc ρ, I (x :: r) acc ρ → ∃ ρ1, f (g x) ρ = some ρ1 ∧ Tr (mt ρ1) fun b ρ2 => if b = true then Tr (me ρ2) fun y ρ3 => acc.length < sizeLine ∧ noIo ρ3 vs = true ∧ I r (acc ++ [y]) (wipeE ρ3 vs)
      else noIo ρ2 vs = true ∧ I r acc (wipeE ρ2 vs)) (e : ∀ acc ρ, I [] acc ρ → P acc ρ) : Tr (lcL vs f mt me (xs.map g) [] ρ) P := by
  refine lcL_inv (fun i acc ρ1 => I (xs.drop i) acc ρ1) _ 0 _ _ h0 ?_ ?_
  · intro i d acc ρ1 hd h
    rw [List.getElem?_map] at hd
    obtain ⟨x, hx, rfl⟩ := Option.map_eq_some_iff.mp hd
    obtain ⟨hl, rfl⟩ := List.getElem?_eq_some_iff.mp hx
    rw [Nat.zero_add, List.drop_eq_getElem_cons hl] at h
    have z := st _ _ _ _ h
    rw [Nat.zero_add]
    exact z
  · intro acc ρ1 h
    refine e acc ρ1 ?_
    rw [Nat.zero_add, List.length_map, List.drop_length] at h
    exact h
theorem noIo1 {ρ : Fl.Env} {i : Nat} (h : okSlot ρ i = true) : noIo ρ [i] = true := by
  simpa [noIo] using h
def LTR : List Nat := ("abcdefghijklmnopqrstuvwxyz" : Str).cps.toList
def DGT : List Nat := ("0123456789" : Str).cps.toList
def isNmL (l : List Nat) : Bool := match l with
  | [] => false
  | c :: r => decide (r.length < 12) && (decide (c ∈ LTR) && (c :: r).all fun c => decide (c ∈ LTR) || decide (c ∈ DGT))
def isNm (s : Str) : Bool := isNmL s.cps.toList
theorem is_name_rs {s : Str} {n : Nat} {P : Dv → List Dv → Prop} (hs : SOk n s) (hn : n ≤ 1000) (h : P (.p (.bl (isNm s))) [.p (.str s)]) : RS (m_is_name [.p (.str s)]) P := by
  refine rs_fn rfl ?_
  show Tr (b_is_name [some (.p (.str s)), none]) _
  unfold b_is_name
  obtain ⟨⟨l⟩⟩ := s
  have hl : l.length ≤ 1000 := Nat.le_trans hs.1 hn
  have e1 : ((⟨⟨l⟩⟩ : Str).length) = l.length := rfl
  have hlen : lenF (.str ⟨⟨l⟩⟩) = some (.int l.length) := by
    show (if l.length ≤ 2 ^ 24 then some (D.int l.length) else none) = _
    rw [if_pos (by omega)]
  have hlf : f1 lenF [.str ⟨⟨l⟩⟩] = some (.int l.length) := hlen
  have hL : (⟨⟨l⟩⟩ : Str).cps.toList = l := rfl
  have hx0 : ∀ c r, l = c :: r → ixF (.str ⟨⟨l⟩⟩) (.int 0) = some (.str ⟨#[c]⟩) := by
    intro c r e
    subst e
    show (if (c :: r).length ≤ 2 ^ 24 then (L2.atI (c :: r) 0).map fun c => D.str ⟨#[c]⟩ else none) = _
    rw [if_pos (by omega), show L2.atI (c :: r) 0 = some c by unfold L2.atI L2.ixN; rw [if_pos (by omega), if_pos (by simp only [List.length_cons]; omega)]; rfl]
    rfl
  have hI : isNm ⟨⟨l⟩⟩ = isNmL l := rfl
  generalize (⟨⟨l⟩⟩ : Str) = s at *
  repeat fail
  refine tr_opt hlf ?_
  repeat fail
  dsimp only
  rcases l with _ | ⟨c, r⟩
  · rw [show decide ((1 : Int) ≤ (([] : List Nat).length : Int)) = false from rfl]
    rw [hI] at h
    repeat fail
    refine tr_ite (fun _ => ?_) (fun h1 => absurd h1 (by decide))
    refine tr_ite (fun _ => ?_) (fun h1 => absurd h1 (by decide))
    repeat fail
    exact h
  rw [show decide ((1 : Int) ≤ ((c :: r).length : Int)) = true from decide_eq_true (by simp only [List.length_cons]; omega)]
  dsimp only
  repeat fail
  dsimp only
  refine tr_ite (fun h1 => ?_) (fun h1 => ?_)
  · have h2 : ¬ (((c :: r).length : Int) ≤ 12) := by simpa using h1
    have h3 : isNm s = false := by
      rw [hI]
      show (decide (r.length < 12) && _) = false
      rw [decide_eq_false (by simp only [List.length_cons] at h2; omega)]; rfl
    rw [h3] at h
    refine tr_ite (fun _ => ?_) (fun h1 => absurd h1 (by decide))
    repeat fail
    exact h
  have h2 : ((c :: r).length : Int) ≤ 12 := by simpa using h1
  repeat fail
  refine tr_opt (hx0 c r rfl) ?_
  repeat fail
  have h3 : isNm s = (decide (c ∈ LTR) && (c :: r).all fun c => decide (c ∈ LTR) || decide (c ∈ DGT)) := by
    rw [hI]
    show (decide (r.length < 12) && _) = _
    rw [decide_eq_true (by simp only [List.length_cons] at h2; omega)]; rfl
  rw [h3] at h
  refine tr_ite (fun h4 => ?_) (fun h4 => ?_)
  · have h5 : decide (c ∈ LTR) = false := by
      change (!decide (c ∈ LTR)) = true at h4
      simpa using h4
    rw [h5] at h
    repeat fail
    exact h
  have h5 : decide (c ∈ LTR) = true := by
    change (!decide (c ∈ LTR)) = false at h4
    simpa using h4
  rw [h5, Bool.true_and] at h
  repeat fail
  rw [hL]
  refine (tr_forR (P := fun fl ρ1 => (fl = .nx ∧ (c :: r).all (fun c => decide (c ∈ LTR) || decide (c ∈ DGT)) = true ∧ ∃ x, ρ1 = [some (.p (.str s)), x]) ∨ (fl = .ret (.p (.bl false)) ∧ (c :: r).all (fun c => decide (c ∈ LTR) || decide (c ∈ DGT)) = false ∧ ∃ x, ρ1 = [some (.p (.str s)), x]))
    (fun q ρ1 => (c :: r).all (fun c => decide (c ∈ LTR) || decide (c ∈ DGT)) = q.all (fun c => decide (c ∈ LTR) || decide (c ∈ DGT)) ∧ ∃ x, okSlot [x] 0 = true ∧ ρ1 = [some (.p (.str s)), x]) (c :: r) _ ⟨rfl, none, rfl, rfl⟩ ?_ ?_).mono ?_
  · rintro z q ρ1 ⟨h6, x, hx, rfl⟩
    refine ⟨_, tgN_ok hx, ?_⟩
    dsimp only [List.set]
    repeat fail
    have h7 : (c :: r).all (fun c => decide (c ∈ LTR) || decide (c ∈ DGT)) = ((decide (z ∈ LTR) || decide (z ∈ DGT)) && q.all fun c => decide (c ∈ LTR) || decide (c ∈ DGT)) := h6
    clear h6
    refine tr_ite (fun h8 => ?_) (fun h8 => ?_)
    · have h9 : decide (z ∈ LTR) = false := by
        change (!decide (z ∈ LTR)) = true at h8
        simpa using h8
      rw [h9, Bool.false_or] at h7
      repeat fail
      refine tr_ite (fun h8 => ?_) (fun h8 => ?_)
      · have h10 : decide (z ∈ DGT) = false := by
          change (!decide (z ∈ DGT)) = true at h8
          simpa using h8
        rw [h10, Bool.false_and] at h7
        repeat fail
        exact .inr ⟨rfl, h7, _, rfl⟩
      · have h10 : decide (z ∈ DGT) = true := by
          change (!decide (z ∈ DGT)) = false at h8
          simpa using h8
        rw [h10, Bool.true_and] at h7
        repeat fail
        exact ⟨h7, _, rfl, rfl⟩
    · have h9 : decide (z ∈ LTR) = true := by
        change (!decide (z ∈ LTR)) = false at h8
        simpa using h8
      rw [h9, Bool.true_or, Bool.true_and] at h7
      repeat fail
      exact ⟨h7, _, rfl, rfl⟩
  · rintro ρ1 ⟨h6, x, hx, rfl⟩
    exact .inl ⟨rfl, h6, x, rfl⟩
  rintro _ _ (⟨rfl, h6, x, rfl⟩ | ⟨rfl, h6, x, rfl⟩)
  · rw [h6] at h
    repeat fail
    exact h
  · rw [h6] at h
    repeat fail
    exact h
theorem law_is_name_rs {s : Str} {n : Nat} {P : Dv → List Dv → Prop} (hs : SOk n s) (hn : n ≤ 1000) (h : P (.p (.bl (isNm s))) [.p (.str s)]) : RS (m__law_is_name [.p (.str s)]) P := by
  refine rs_fn rfl ?_
  show Tr (b__law_is_name [some (.p (.str s)), none, none]) _
  unfold b__law_is_name
  obtain ⟨⟨l⟩⟩ := s
  have hl : l.length ≤ 1000 := Nat.le_trans hs.1 hn
  have e1 : ((⟨⟨l⟩⟩ : Str).length) = l.length := rfl
  have hlen : lenF (.str ⟨⟨l⟩⟩) = some (.int l.length) := by
    show (if l.length ≤ 2 ^ 24 then some (D.int l.length) else none) = _
    rw [if_pos (by omega)]
  have hlf : f1 lenF [.str ⟨⟨l⟩⟩] = some (.int l.length) := hlen
  have hL : (⟨⟨l⟩⟩ : Str).cps.toList = l := rfl
  have hx0 : ∀ c r, l = c :: r → ixF (.str ⟨⟨l⟩⟩) (.int 0) = some (.str ⟨#[c]⟩) := by
    intro c r e
    subst e
    show (if (c :: r).length ≤ 2 ^ 24 then (L2.atI (c :: r) 0).map fun c => D.str ⟨#[c]⟩ else none) = _
    rw [if_pos (by omega), show L2.atI (c :: r) 0 = some c by unfold L2.atI L2.ixN; rw [if_pos (by omega), if_pos (by simp only [List.length_cons]; omega)]; rfl]
    rfl
  have hI : isNm ⟨⟨l⟩⟩ = isNmL l := rfl
  generalize (⟨⟨l⟩⟩ : Str) = s at *
  repeat fail
  refine tr_opt hlf ?_
  repeat fail
  dsimp only
  rcases l with _ | ⟨c, r⟩
  · rw [show decide ((1 : Int) ≤ (([] : List Nat).length : Int)) = false from rfl]
    rw [hI] at h
    repeat fail
    refine tr_ite (fun _ => ?_) (fun h1 => absurd h1 (by decide))
    refine tr_ite (fun _ => ?_) (fun h1 => absurd h1 (by decide))
    repeat fail
    exact h
  rw [show decide ((1 : Int) ≤ ((c :: r).length : Int)) = true from decide_eq_true (by simp only [List.length_cons]; omega)]
  dsimp only
  repeat fail
  dsimp only
  refine tr_ite (fun h1 => ?_) (fun h1 => ?_)
  · have h2 : ¬ (((c :: r).length : Int) ≤ 12) := by simpa using h1
    have h3 : isNm s = false := by
      rw [hI]
      show (decide (r.length < 12) && _) = false
      rw [decide_eq_false (by simp only [List.length_cons] at h2; omega)]; rfl
    rw [h3] at h
    refine tr_ite (fun _ => ?_) (fun h1 => absurd h1 (by decide))
    repeat fail
    exact h
  have h2 : ((c :: r).length : Int) ≤ 12 := by simpa using h1
  repeat fail
  refine tr_opt (hx0 c r rfl) ?_
  repeat fail
  have h3 : isNm s = (decide (c ∈ LTR) && (c :: r).all fun c => decide (c ∈ LTR) || decide (c ∈ DGT)) := by
    rw [hI]
    show (decide (r.length < 12) && _) = _
    rw [decide_eq_true (by simp only [List.length_cons] at h2; omega)]; rfl
  rw [h3] at h
  refine tr_ite (fun h4 => ?_) (fun h4 => ?_)
  · have h5 : decide (c ∈ LTR) = false := by
      change (!decide (c ∈ LTR)) = true at h4
      simpa using h4
    rw [h5] at h
    repeat fail
    exact h
  have h5 : decide (c ∈ LTR) = true := by
    change (!decide (c ∈ LTR)) = false at h4
    simpa using h4
  rw [h5, Bool.true_and] at h
  repeat fail
  rw [hL]
  refine (tr_lcR (P := fun acc ρ1 => decide (acc = []) = (c :: r).all (fun c => decide (c ∈ LTR) || decide (c ∈ DGT)) ∧ acc.length ≤ 1000 ∧ ρ1 = [some (.p (.str s)), some (.p (.str "abcdefghijklmnopqrstuvwxyz")), none])
    (fun q acc ρ1 => (c :: r).all (fun c => decide (c ∈ LTR) || decide (c ∈ DGT)) = (decide (acc = []) && q.all (fun c => decide (c ∈ LTR) || decide (c ∈ DGT))) ∧ acc.length + q.length ≤ 1000 ∧ ρ1 = [some (.p (.str s)), some (.p (.str "abcdefghijklmnopqrstuvwxyz")), none]) (c :: r) _ ⟨rfl, by simpa using hl, rfl⟩ ?_ ?_).mono ?_
  · rintro z q acc ρ1 ⟨h6, hlen2, rfl⟩
    refine ⟨_, tgN_ok rfl, ?_⟩
    dsimp only [List.set]
    repeat fail
    have h7 : (c :: r).all (fun c => decide (c ∈ LTR) || decide (c ∈ DGT)) = (decide (acc = []) && ((decide (z ∈ LTR) || decide (z ∈ DGT)) && q.all fun c => decide (c ∈ LTR) || decide (c ∈ DGT))) := h6
    clear h6
    rw [List.length_cons] at hlen2
    refine tr_ite (fun h8 => ?_) (fun h8 => ?_)
    · have h9 : decide (z ∈ LTR) = false := by
        change (!decide (z ∈ LTR)) = true at h8
        simpa using h8
      rw [h9, Bool.false_or] at h7
      repeat fail
      refine tr_ite (fun h8 => ?_) (fun h8 => ?_)
      · have h10 : decide (z ∈ DGT) = false := by
          change (!decide (z ∈ DGT)) = true at h8
          simpa using h8
        rw [h10, Bool.false_and, Bool.and_false] at h7
        repeat fail
        refine ⟨by show acc.length < 2 ^ 24; omega, rfl, ?_, ?_, rfl⟩
        · rw [h7, decide_eq_false (by simp)]; rfl
        · rw [List.length_append]; show acc.length + 1 + q.length ≤ 1000; omega
      · have h10 : decide (z ∈ DGT) = true := by
          change (!decide (z ∈ DGT)) = false at h8
          simpa using h8
        rw [h10, Bool.true_and] at h7
        repeat fail
        exact ⟨rfl, h7, by omega, rfl⟩
    · have h9 : decide (z ∈ LTR) = true := by
        change (!decide (z ∈ LTR)) = false at h8
        simpa using h8
      rw [h9, Bool.true_or, Bool.true_and] at h7
      repeat fail
      exact ⟨rfl, h7, by omega, rfl⟩
  · rintro acc ρ1 ⟨h6, hlen2, rfl⟩
    exact ⟨by rw [h6, List.all_nil, Bool.and_true], by simpa using hlen2, rfl⟩
  rintro acc _ ⟨h6, h7, rfl⟩
  repeat fail
  rw [← h6] at h
  have h8 : decide (((SK.l, acc).snd.length : Int) = 0) = decide (acc = []) := by cases acc <;> simp <;> omega
  rw [h8]
  exact h
end Lk
end

section
set_option Elab.async false
set_option linter.all false
set_option maxRecDepth 100000
set_option autoImplicit false
set_option maxHeartbeats 1000000
namespace Lk
open Fl PySem
local macro_rules | `(tactic| fail) => `(tactic| first
  | with_reducible first
    | refine tr_seqS ?_ | refine tr_op2 ?_ | refine tr_pure ?_ | refine tr_setM ?_ | refine tr_ifM ?_ | refine tr_boolM ?_ | refine tr_callB ?_ | refine tr_consM ?_ | refine tr_setIxM ?_ | refine tr_andM ?_ | refine tr_orM ?_ | refine tr_notM ?_ | refine tr_retM ?_
    | refine tr_frzM ?_ | refine tr_callM ?_ | refine tr_consR ?_ | refine tr_argV ?_ | refine tr_forM ?_ | refine tr_itM ?_ | refine tr_setO ?_ | refine tr_lstM ?_ | refine tr_tupM ?_ | refine tr_bind ?_
    | refine tr_landM ?_ | refine tr_lorM ?_ | refine tr_bM ?_ | refine tr_ownC ?_ | refine tr_retO ?_ | refine tr_exprM ?_ | refine tr_seqM ?_ | refine tr_qM ?_ | refine tr_qN ?_ | refine tr_isiM ?_ | refine tr_negM ?_ | refine tr_bitsM ?_ | refine tr_partM ?_ | refine tr_slM ?_ | refine tr_chainL ?_ | refine tr_chainM ?_ | refine tr_iteT ?_ | refine tr_iteF ?_ | refine tr_iteNF ?_ | refine tr_iteNT ?_ | refine tr_parM ?_
    | refine tr_consN ?_ | refine tr_newM ?_ | refine tr_callN ?_ | refine tr_asgM ?_ | refine tr_lcM ?_
  | ((with_reducible refine' tr_var ?e ?k); (case e => exact rfl))
  | ((with_reducible refine' tr_ixOM ?e ?k); (case e => exact rfl))
  | ((with_reducible refine' tr_argR ?e ?f ?k); (case e => exact rfl); (case f => exact rfl))
  | ((with_reducible refine' tr_argB ?e ?f ?k); (case e => exact rfl); (case f => exact rfl))
  | ((with_reducible refine' tr_appM ?e ?k); (case e => exact rfl))
  | ((with_reducible refine' tr_retV ?e ?k); (case e => exact rfl))
  | ((with_reducible refine' tr_ownM ?e ?k); (case e => exact rfl))
  | ((with_reducible refine' tr_opt ?e ?k); (case e => exact rfl))
  | with_reducible refine tr_mul (by first | exact .inl (.inr ⟨by decide, by decide⟩) | exact .inl (.inl ⟨by omega, by omega⟩)) ?_
  | with_reducible refine tr_mod (by first | decide | omega) ?_
  | with_reducible refine tr_fdiv (by first | decide | assumption) ?_
  | ((with_reducible refine' ⟨_, _, _, _, ?e, ?f, ?g, ?k⟩); (case e => exact rfl); (case f => exact rfl); (case g => exact rfl); dsimp only [List.set])
  | ((with_reducible refine' ⟨_, _, (?e : _ = some (some (Dv.o _ _))), ?k⟩); (case e => exact rfl))
  | ((with_reducible refine' ⟨?e, ?k⟩); (case e => (with_reducible show okSlot _ _ = true); exact rfl); dsimp only [List.set])
  | ((with_reducible refine' ⟨?e, ?k⟩); (case e => (with_reducible show isO _ _ = true); exact rfl))
  | ((with_reducible refine' ⟨?e, ?k⟩); (case e => (with_reducible show List.length _ ≤ sizeLine); exact le_sz rfl))
  | ((with_reducible refine' ⟨?e, ?k⟩); (case e => (with_reducible show noIo _ _ = true); exact rfl)))
theorem le_sz {n : Nat} (h : Nat.ble n 1000 = true) : n ≤ sizeLine := Nat.le_trans (Nat.le_of_ble_eq_true h) (by show 1000 ≤ 2 ^ 24; omega)
theorem tg2_ok {i j : Nat} {d1 d2 : D} {ρ : Fl.Env} (h1 : okSlot ρ i = true) (h2 : okSlot (ρ.set i (some (.p d1))) j = true) : tgT (tgCons (tgN i) (tgCons (tgN j) tgNil)) 2 (.tup [d1, d2]) ρ = some ((ρ.set i (some (.p d1))).set j (some (.p d2))) := by
  show (match tgN i d1 ρ with | some ρ' => tgCons (tgN j) tgNil [d2] ρ' | none => none) = _
  rw [tgN_ok h1]
  show (match tgN j d2 (ρ.set i (some (.p d1))) with | some ρ' => tgNil [] ρ' | none => none) = _
  rw [tgN_ok h2]
  rfl
theorem tr_iteC {c : Bool} {A B : Prop} (e : c = true) (h : A) : if c = true then A else B := by rw [if_pos e]; exact h
theorem tr_iteD {c : Bool} {A B : Prop} (e : c = false) (h : B) : if c = true then A else B := by rw [e, if_neg Bool.false_ne_true]; exact h
theorem tr_iteNF {A B : Prop} (h : A) : if (!false) = true then A else B := tr_iteC rfl h
theorem tr_iteNT {A B : Prop} (h : B) : if (!true) = true then A else B := tr_iteD rfl h
theorem tr_iteT {A B : Prop} (h : A) : if true = true then A else B := by rw [if_pos rfl]; exact h
theorem tr_iteF {A B : Prop} (h : B) : if false = true then A else B := by rw [if_neg Bool.false_ne_true]; exact h
def asI : D → Option Int
  | .int i => some i
  | _ => none
/-- a ≤ m ≤ b, written bounds -/
theorem tr_chainL {a b : Int} {m : M D} {ρ : Fl.Env} {P : D → Fl.Env → Prop} (h : Tr (m ρ) fun y ρ1 => Tr (optM (asI y) ρ1) fun j ρ2 => P (.bl (decide (a ≤ j) && decide (j ≤ b))) ρ2) : Tr (chainM leF leF (pureM (.int a)) m (pureM (.int b)) ρ) P := by
  refine tr_chainM (tr_pure (h.mono fun y ρ1 q => ?_))
  cases y with
  | int j =>
    have q : P (.bl (decide (a ≤ j) && decide (j ≤ b))) ρ1 := q
    show Tr (optM (some (D.bl (decide (a ≤ j)))) ρ1) _
    rw [Tr_some]
    cases hd : decide (a ≤ j) with
    | true =>
      rw [hd, Bool.true_and] at q
      exact q
    | false =>
      rw [hd, Bool.false_and] at q
      exact q
  | _ => exact q.elim
def SrcOk (s : List D) : Prop := ∃ a b c : Int, s = [.int a, .int b, .int c] ∧ 0 ≤ a ∧ (0 ≤ c ∧ c < 2147483648)
theorem tr_drawS {ns : List Int} {ρ : Fl.Env} {j : Nat} {io : Bool} {s : List D} {lim : Int} {P : Dv → Fl.Env → Prop} (e : ρ[j]? = some (some (.o io s))) (hs : SrcOk s) (h0 : 0 < lim) (hl : lim < 2 ^ 200)
    (h : ∀ (v : Int) (s' : List D), 0 ≤ v → v < lim → SrcOk s' → P (.p (.int v)) (ρ.set j (some (.o io s')))) : Tr (callC m__law_draw [.v (.scr ns), .r j, .v (.int lim)] ρ) P := by
  obtain ⟨a, b, c, rfl, ha, hc⟩ := hs
  exact tr_draw e ha hc (lim_ok h0 hl) fun v a' b' c' h1 h2 h3 h4 => h v _ h1 h2 ⟨_, _, _, rfl, h3, h4⟩
/-- a loop over a mapped list, its state told by s -/
theorem tr_forS {α σ : Type} {g : α → D} {f : D → Fl.Env → Option Fl.Env} {b : M Fw} {P : Fw → Fl.Env → Prop} (e : σ → Fl.Env) (I : List α → σ → Prop) (xs : List α) (s0 : σ) (ρ : Fl.Env) (h0 : I xs s0) (hρ : ρ = e s0)
    (st : ∀ x r s, I (x :: r) s → ∃ ρ1, f (g x) (e s) = some ρ1 ∧ Tr (b ρ1) fun fl ρ2 => match fl with
      | .nx => ∃ s', ρ2 = e s' ∧ I r s'
      | .ct => ∃ s', ρ2 = e s' ∧ I r s'
      | .bk => P .nx ρ2
      | .ret w => P (.ret w) ρ2) (fin : ∀ s, I [] s → P .nx (e s)) : Tr (forL (xs.map g) f b ρ) P := by
  refine tr_forR (fun r ρ1 => ∃ s, ρ1 = e s ∧ I r s) xs ρ ⟨s0, hρ, h0⟩ ?_ ?_
  · rintro x r ρ1 ⟨s, rfl, h⟩
    exact st x r s h
  · rintro ρ1 ⟨s, rfl, h⟩
    exact fin s h
/-- a loop over range(n), its state told by s -/
theorem tr_forN {σ : Type} {n : Int} {f : D → Fl.Env → Option Fl.Env} {b : M Fw} {P : Fw → Fl.Env → Prop} (e : σ → Fl.Env) (I : Nat → σ → Prop) (s0 : σ) (ρ : Fl.Env) (h0 : I 0 s0) (hρ : ρ = e s0)
    (st : ∀ (i : Nat) s, (i : Int) < n → I i s → ∃ ρ1, f (.int i) (e s) = some ρ1 ∧ Tr (b ρ1) fun fl ρ2 => match fl with
      | .nx => ∃ s', ρ2 = e s' ∧ I (i + 1) s'
      | .ct => ∃ s', ρ2 = e s' ∧ I (i + 1) s'
      | .bk => P .nx ρ2
      | .ret w => P (.ret w) ρ2) (fin : ∀ s, I n.toNat s → P .nx (e s)) : Tr (forL (rngF 0 n) f b ρ) P := by
  refine forL_inv (fun i ρ1 => ∃ s, ρ1 = e s ∧ I i s) _ 0 ρ ⟨s0, hρ, h0⟩ ?_ ?_
  · rintro i d ρ1 hd ⟨s, rfl, h⟩
    obtain ⟨rfl, hi⟩ := rng_get hd
    rw [Nat.zero_add] at h ⊢
    exact st i s hi h
  · rintro ρ1 ⟨s, rfl, h⟩
    rw [rngF_len, Nat.zero_add, show (n - 0).toNat = n.toNat by omega] at h
    exact fin s h
/-- a comprehension over a mapped list, its state told by s -/
theorem tr_lcS {α σ : Type} {g : α → D} {vs : List Nat} {f : D → Fl.Env → Option Fl.Env} {mt : M Bool} {me : M D} {P : List D → Fl.Env → Prop} (e : σ → Fl.Env) (I : List α → List D → σ → Prop) (xs : List α) (s0 : σ) (ρ : Fl.Env) (h0 : I xs [] s0) (hρ : ρ = e s0)
    (st : ∀ x r acc s, I (x :: r) acc s → ∃ ρ1, f (g x) (e s) = some ρ1 ∧ Tr (mt ρ1) fun b ρ2 => if b = true then Tr (me ρ2) fun y ρ3 => acc.length < sizeLine ∧ noIo ρ3 vs = true ∧ ∃ s', wipeE ρ3 vs = e s' ∧ I r (acc ++ [y]) s'
      else noIo ρ2 vs = true ∧ ∃ s', wipeE ρ2 vs = e s' ∧ I r acc s') (fin : ∀ acc s, I [] acc s → P acc (e s)) : Tr (lcL vs f mt me (xs.map g) [] ρ) P := by
  refine tr_lcR (fun r acc ρ1 => ∃ s, ρ1 = e s ∧ I r acc s) xs ρ ⟨s0, hρ, h0⟩ ?_ ?_
  · rintro x r acc ρ1 ⟨s, rfl, h⟩
    exact st x r acc s h
  · rintro acc ρ1 ⟨s, rfl, h⟩
    exact fin acc s h
theorem tr_lcD {σ : Type} {vs : List Nat} {f : D → Fl.Env → Option Fl.Env} {mt : M Bool} {me : M D} {P : List D → Fl.Env → Prop} (e : σ → Fl.Env) (I : List D → List D → σ → Prop) (xs : List D) (s0 : σ) (ρ : Fl.Env) (h0 : I xs [] s0) (hρ : ρ = e s0)
    (st : ∀ x r acc s, I (x :: r) acc s → ∃ ρ1, f x (e s) = some ρ1 ∧ Tr (mt ρ1) fun b ρ2 => if b = true then Tr (me ρ2) fun y ρ3 => acc.length < sizeLine ∧ noIo ρ3 vs = true ∧ ∃ s', wipeE ρ3 vs = e s' ∧ I r (acc ++ [y]) s'
      else noIo ρ2 vs = true ∧ ∃ s', wipeE ρ2 vs = e s' ∧ I r acc s') (fin : ∀ acc s, I [] acc s → P acc (e s)) : Tr (lcL vs f mt me xs [] ρ) P := by
  have z := tr_lcS (g := id) (vs := vs) (f := f) (mt := mt) (me := me) (P := P) e I xs s0 ρ h0 hρ st fin
  rw [List.map_id] at z
  exact z
theorem tr_forD {σ : Type} {f : D → Fl.Env → Option Fl.Env} {b : M Fw} {P : Fw → Fl.Env → Prop} (e : σ → Fl.Env) (I : List D → σ → Prop) (xs : List D) (s0 : σ) (ρ : Fl.Env) (h0 : I xs s0) (hρ : ρ = e s0)
    (st : ∀ x r s, I (x :: r) s → ∃ ρ1, f x (e s) = some ρ1 ∧ Tr (b ρ1) fun fl ρ2 => match fl with
      | .nx => ∃ s', ρ2 = e s' ∧ I r s'
      | .ct => ∃ s', ρ2 = e s' ∧ I r s'
      | .bk => P .nx ρ2
      | .ret w => P (.ret w) ρ2) (fin : ∀ s, I [] s → P .nx (e s)) : Tr (forL xs f b ρ) P := by
  have z := tr_forS (g := id) (f := f) (b := b) (P := P) e I xs s0 ρ h0 hρ st fin
  rw [List.map_id] at z
  exact z
theorem atI_nat {α : Type} {xs : List α} {i : Nat} {d : α} (h : xs[i]? = some d) : L2.atI xs (i : Int) = some d := by
  have hl := (List.getElem?_eq_some_iff.mp h).1
  unfold L2.atI L2.ixN
  rw [if_pos (by omega), if_pos (by omega)]
  exact h
theorem ix_tup {xs : List D} {i : Nat} {d : D} (h : xs[i]? = some d) : ixF (.tup xs) (.int i) = some d := atI_nat h
theorem ix_lst {xs : List D} {i : Nat} {d : D} (h : xs[i]? = some d) : ixF (.lst xs) (.int i) = some d := atI_nat h
/-- an int of a display of ints -/
def isI (lo hi : Int) : D → Bool
  | .int i => decide (lo ≤ i) && decide (i ≤ hi)
  | _ => false
theorem tr_ixI {ds : List D} {v lo hi : Int} {ρ : Fl.Env} {P : D → Fl.Env → Prop} (h0 : 0 ≤ v) (h1 : v < ds.length) (ha : ds.all (isI lo hi) = true) (h : ∀ i, lo ≤ i → i ≤ hi → P (.int i) ρ) : Tr (optM (ixF (.lst ds) (.int v)) ρ) P := by
  refine tr_ixLst h0 h1 fun z hz => ?_
  have hp := List.all_eq_true.mp ha z hz
  unfold isI at hp
  split at hp
  · rw [Bool.and_eq_true] at hp
    exact h _ (of_decide_eq_true hp.1) (of_decide_eq_true hp.2)
  · cases hp
abbrev Row := Str × Int × List Int
def rowD (r : Row) : D := .tup [.str r.1, .int r.2.1, .tup (r.2.2.map D.int)]
def RowOk (r : Row) : Prop := SOk 20 r.1 ∧ r.2.2.length ≤ 80 ∧ ∀ w ∈ r.2.2, -(2 ^ 150) < w ∧ w < 2 ^ 150
theorem RowOk.lt {r : Row} (h : RowOk r) : ∀ w ∈ r.2.2, w < 2 ^ 200 := fun w hw => by
  have := (h.2.2 w hw).2
  omega
theorem isNN2 {d : D} (h : d ≠ .non) : (match (generalizing := false) d with | .non => false | _ => true) = true := by
  cases d <;> first | rfl | exact absurd rfl h
theorem row_get {rs : List Row} {i : Nat} {r : Row} (hi : rs[i]? = some r) : (rs.map rowD)[i]? = some (rowD r) := by rw [List.getElem?_map, hi]; rfl
theorem mm_ints {g : List Int → Int} {k : SK} {ws : List Int} (h : ws ≠ []) : mmQ g k (ws.map D.int) = some (.int (g ws)) := by
  cases ws with
  | nil => exact absurd rfl h
  | cons w r =>
    show (intsOf ((w :: r).map D.int)).map _ = _
    rw [intsOf_ints]
    rfl

end Lk
end

section
set_option Elab.async false
set_option linter.all false
set_option maxRecDepth 100000
set_option autoImplicit false
set_option maxHeartbeats 1000000
namespace Lk
open Fl PySem
local macro_rules | `(tactic| fail) => `(tactic| first
  | with_reducible first
    | refine tr_seqS ?_ | refine tr_op2 ?_ | refine tr_pure ?_ | refine tr_setM ?_ | refine tr_ifM ?_ | refine tr_boolM ?_ | refine tr_callB ?_ | refine tr_consM ?_ | refine tr_setIxM ?_ | refine tr_andM ?_ | refine tr_orM ?_ | refine tr_notM ?_ | refine tr_retM ?_
    | refine tr_frzM ?_ | refine tr_callM ?_ | refine tr_consR ?_ | refine tr_argV ?_ | refine tr_forM ?_ | refine tr_itM ?_ | refine tr_setO ?_ | refine tr_lstM ?_ | refine tr_tupM ?_ | refine tr_bind ?_
    | refine tr_landM ?_ | refine tr_lorM ?_ | refine tr_bM ?_ | refine tr_ownC ?_ | refine tr_retO ?_ | refine tr_exprM ?_ | refine tr_seqM ?_ | refine tr_qM ?_ | refine tr_qN ?_ | refine tr_isiM ?_ | refine tr_negM ?_ | refine tr_bitsM ?_ | refine tr_partM ?_ | refine tr_slM ?_ | refine tr_chainL ?_ | refine tr_chainM ?_ | refine tr_iteT ?_ | refine tr_iteF ?_ | refine tr_iteNF ?_ | refine tr_iteNT ?_ | refine tr_parM ?_
    | refine tr_consN ?_ | refine tr_newM ?_ | refine tr_callN ?_ | refine tr_asgM ?_ | refine tr_lcM ?_
  | ((with_reducible refine' tr_var ?e ?k); (case e => exact rfl))
  | ((with_reducible refine' tr_ixOM ?e ?k); (case e => exact rfl))
  | ((with_reducible refine' tr_argR ?e ?f ?k); (case e => exact rfl); (case f => exact rfl))
  | ((with_reducible refine' tr_argB ?e ?f ?k); (case e => exact rfl); (case f => exact rfl))
  | ((with_reducible refine' tr_appM ?e ?k); (case e => exact rfl))
  | ((with_reducible refine' tr_retV ?e ?k); (case e => exact rfl))
  | ((with_reducible refine' tr_ownM ?e ?k); (case e => exact rfl))
  | ((with_reducible refine' tr_opt ?e ?k); (case e => exact rfl))
  | with_reducible refine tr_mul (by first | exact .inl (.inr ⟨by decide, by decide⟩) | exact .inl (.inl ⟨by omega, by omega⟩)) ?_
  | with_reducible refine tr_mod (by first | decide | omega) ?_
  | with_reducible refine tr_fdiv (by first | decide | assumption) ?_
  | ((with_reducible refine' ⟨_, _, _, _, ?e, ?f, ?g, ?k⟩); (case e => exact rfl); (case f => exact rfl); (case g => exact rfl); dsimp only [List.set])
  | ((with_reducible refine' ⟨_, _, (?e : _ = some (some (Dv.o _ _))), ?k⟩); (case e => exact rfl))
  | ((with_reducible refine' ⟨?e, ?k⟩); (case e => (with_reducible show okSlot _ _ = true); exact rfl); dsimp only [List.set])
  | ((with_reducible refine' ⟨?e, ?k⟩); (case e => (with_reducible show isO _ _ = true); exact rfl))
  | ((with_reducible refine' ⟨?e, ?k⟩); (case e => (with_reducible show List.length _ ≤ sizeLine); exact le_sz rfl))
  | ((with_reducible refine' ⟨?e, ?k⟩); (case e => (with_reducible show noIo _ _ = true); exact rfl)))
theorem tr_catM {a : M D} {b : M (SK × List D)} {ρ : Fl.Env} {P : Dv → Fl.Env → Prop} (h : Tr (a ρ) fun x ρ1 => Tr (b ρ1) fun y ρ2 => Tr (optM (((seqF x).bind fun q => catQ q y).map fun z => Dv.o false z) ρ2) P) : Tr (catM a b ρ) P := tr_bind (h.mono fun _ _ q => tr_bind q)
theorem tr_joinM {a : Str} {m : M (SK × List D)} {ρ : Fl.Env} {P : D → Fl.Env → Prop} (h : Tr (m ρ) fun z ρ2 => Tr (optM (joinF (.str a) z) ρ2) P) : Tr (joinM (pureM (.str a)) m ρ) P := tr_bind (tr_pure (tr_bind h))
theorem tr_inQM {n : Bool} {a : M D} {b : M (SK × List D)} {ρ : Fl.Env} {P : D → Fl.Env → Prop} (h : Tr (a ρ) fun x ρ1 => Tr (b ρ1) fun y ρ2 => Tr (optM (inQF n x y) ρ2) P) : Tr (inQM n a b ρ) P := tr_bind (h.mono fun _ _ q => tr_bind q)
/-- the test of an if, what it tells said before -/
theorem tr_ifI {α : Type} {c : M Bool} {a b : M α} {ρ : Fl.Env} {P : α → Fl.Env → Prop} (J : Bool → Fl.Env → Prop) (h1 : Tr (c ρ) J) (h2 : ∀ x ρ1, J x ρ1 → if x = true then Tr (a ρ1) P else Tr (b ρ1) P) : Tr (ifM c a b ρ) P := tr_ifM (h1.mono h2)
def isNB : D → Bool
  | .non => true
  | _ => false
/-- a and (x is None) -/
theorem tr_landV {a : M D} {j : Nat} {ρ : Fl.Env} {P : D → Fl.Env → Prop} (h : Tr (boolM a ρ) fun x ρ1 => ∃ d, ρ1[j]? = some (some (.p d)) ∧ P (.bl (x && isNB d)) ρ1) : Tr (landM a (op2M isNF (varM j) (pureM .non)) ρ) P := by
  refine tr_landM (h.mono ?_)
  rintro x ρ1 ⟨d, e, q⟩
  cases x with
  | true =>
    rw [if_pos rfl]
    refine tr_op2 (tr_var e (tr_pure ?_))
    cases d <;> exact q
  | false =>
    rw [if_neg Bool.false_ne_true]
    exact q
/-- the two ways of an if come together again -/
theorem tr_join {c : Bool} {A B : Out Fw} {Q : Fw → Fl.Env → Prop} (I : Fl.Env → Prop) (h1 : c = true → Tr A fun fl ρ1 => match fl with
    | .nx => I ρ1
    | fl => Q fl ρ1) (h2 : c = false → Tr B fun fl ρ1 => match fl with
    | .nx => I ρ1
    | fl => Q fl ρ1) (k : ∀ ρ1, I ρ1 → Q .nx ρ1) : if c = true then Tr A Q else Tr B Q := by
  have z : ∀ fl ρ1, (match (generalizing := false) fl with
    | .nx => I ρ1
    | fl => Q fl ρ1) → Q fl ρ1 := fun fl ρ1 h => by
    cases fl with
    | nx => exact k ρ1 h
    | _ => exact h
  cases c with
  | true => rw [if_pos rfl]; exact (h1 rfl).mono z
  | false => rw [if_neg Bool.false_ne_true]; exact (h2 rfl).mono z
/-- a slot free of own objects that the caller may change -/
structure OkS (x : Option Dv) : Prop where
  h : okSlot [x] 0 = true
theorem OkS.n : OkS none := ⟨rfl⟩
theorem OkS.p {d : D} : OkS (some (.p d)) := ⟨rfl⟩
theorem OkS.o {ds : List D} : OkS (some (.o false ds)) := ⟨rfl⟩
theorem okAt {ρ : Fl.Env} {i : Nat} {x : Option Dv} (h : OkS x) (e : ρ[i]? = some x) : okSlot ρ i = true := by
  have h := h.h
  unfold okSlot at h ⊢
  rw [e]
  exact h
theorem noIoAt {ρ : Fl.Env} {i : Nat} {x : Option Dv} (h : OkS x) (e : ρ[i]? = some x) : noIo ρ [i] = true := noIo1 (okAt h e)
/-- a comprehension over range(n), its state told by s -/
theorem tr_lcN {σ : Type} {n : Int} {vs : List Nat} {f : D → Fl.Env → Option Fl.Env} {mt : M Bool} {me : M D} {P : List D → Fl.Env → Prop} (e : σ → Fl.Env) (I : Nat → List D → σ → Prop) (s0 : σ) (ρ : Fl.Env) (h0 : I 0 [] s0) (hρ : ρ = e s0)
    (st : ∀ (i : Nat) acc s, (i : Int) < n → I i acc s → ∃ ρ1, f (.int i) (e s) = some ρ1 ∧ Tr (mt ρ1) fun b ρ2 => if b = true then Tr (me ρ2) fun y ρ3 => acc.length < sizeLine ∧ noIo ρ3 vs = true ∧ ∃ s', wipeE ρ3 vs = e s' ∧ I (i + 1) (acc ++ [y]) s'
      else noIo ρ2 vs = true ∧ ∃ s', wipeE ρ2 vs = e s' ∧ I (i + 1) acc s') (fin : ∀ acc s, I n.toNat acc s → P acc (e s)) : Tr (lcL vs f mt me (rngF 0 n) [] ρ) P := by
  refine lcL_inv (fun i acc ρ1 => ∃ s, ρ1 = e s ∧ I i acc s) _ 0 _ ρ ⟨s0, hρ, h0⟩ ?_ ?_
  · rintro i d acc ρ1 hd ⟨s, rfl, h⟩
    obtain ⟨rfl, hi⟩ := rng_get hd
    rw [Nat.zero_add] at h ⊢
    exact st i acc s hi h
  · rintro acc ρ1 ⟨s, rfl, h⟩
    rw [rngF_len, Nat.zero_add, show (n - 0).toNat = n.toNat by omega] at h
    exact fin acc s h
theorem alike_ints : ∀ (ns ms : List Int), PySem.W.alikeAll (pys (ns.map D.int)) (pys (ms.map D.int)) = true
  | [], _ => by simp [pys, PySem.W.alikeAll]
  | _ :: _, [] => by simp [pys, PySem.W.alikeAll]
  | n :: ns, m :: ms => by simp [pys, D.py, PySem.W.alikeAll, PySem.W.alike, alike_ints ns ms]
theorem alike_row (r q : Row) : PySem.W.alike (rowD r).py (rowD q).py = true := by
  simp [rowD, pys, D.py, PySem.W.alikeAll, PySem.W.alike, alike_ints]
theorem dat_row {r : Row} (h : PyData.strOk r.1 = true) : dat 2 (rowD r) = true := by
  simp [rowD, dat, dats, h, dats_ints]
theorem sortOk_rows {rs : List Row} (h : ∀ r ∈ rs, PyData.strOk r.1 = true) (hl : rs.length ≤ 1000) : sortOk (rs.map rowD) = true := by
  have hd : dats 2 (rs.map rowD) = true := by
    rw [dats_all, List.all_eq_true]
    intro x hx
    obtain ⟨r, hr, rfl⟩ := List.mem_map.mp hx
    exact dat_row (h r hr)
  have h1 := (dats_ok 2 _ hd).1
  have h2 : ((rs.map rowD).all fun d => (rs.map rowD).all fun e => PySem.W.alike d.py e.py) = true := by
    rw [List.all_eq_true]
    intro x hx
    rw [List.all_eq_true]
    intro y hy
    obtain ⟨r, hr, rfl⟩ := List.mem_map.mp hx
    obtain ⟨q, hq, rfl⟩ := List.mem_map.mp hy
    exact alike_row r q
  have h3 : ((rs.map rowD).all fun d => match d with | .tup (_ :: _) => true | _ => false) = true := by
    rw [List.all_eq_true]
    intro x hx
    obtain ⟨r, hr, rfl⟩ := List.mem_map.mp hx
    rfl
  have h4 : ((rs.map rowD).all fun d => decide (d.py.depth ≤ 64)) = true := by
    rw [List.all_eq_true]
    intro x hx
    obtain ⟨r, hr, rfl⟩ := List.mem_map.mp hx
    have := (dat_ok 2 _ (dat_row (h r hr))).2.2
    exact decide_eq_true (by omega)
  have h5 : decide ((rs.map rowD).length ≤ sizeLine) = true := decide_eq_true (by rw [List.length_map]; show _ ≤ 2 ^ 24; omega)
  unfold sortOk
  simp only [Bool.and_eq_true, Bool.or_eq_true]
  exact ⟨⟨⟨⟨h1, h2⟩, .inl h3⟩, h5⟩, h4⟩
theorem unmap {α β : Type} {f : α → β} {xs : List α} : ∀ (l : List β), (∀ y ∈ l, y ∈ xs.map f) → ∃ zs : List α, l = zs.map f ∧ ∀ z ∈ zs, z ∈ xs
  | [], _ => ⟨[], rfl, fun _ h => absurd h (by simp)⟩
  | y :: l, h => by
    obtain ⟨x, hx, rfl⟩ := List.mem_map.mp (h y (List.mem_cons_self ..))
    obtain ⟨zs, rfl, hz⟩ := unmap l fun y hy => h y (List.mem_cons_of_mem _ hy)
    exact ⟨x :: zs, rfl, fun z hz' => by
      rcases List.mem_cons.mp hz' with rfl | hz'
      · exact hx
      · exact hz z hz'⟩
theorem sort_rows {k : SK} {rs : List Row} (h : ∀ r ∈ rs, PyData.strOk r.1 = true) (hl : rs.length ≤ 1000) : ∃ rs' : List Row, sortQ k (rs.map rowD) = some (rs'.map rowD) ∧ rs'.length = rs.length ∧ ∀ r ∈ rs', r ∈ rs := by
  have hp : (sortD (rs.map rowD)).Perm (rs.map rowD) := List.mergeSort_perm _ _
  obtain ⟨rs', e, hm⟩ := unmap (sortD (rs.map rowD)) fun y hy => hp.mem_iff.mp hy
  refine ⟨rs', ?_, ?_, hm⟩
  · unfold sortQ
    rw [if_pos (sortOk_rows h hl), e]
  · have := hp.length_eq
    rw [e, List.length_map, List.length_map] at this
    exact this
theorem mod3 (x : Int) : isI 0 2 (.int (x % 3)) = true := by
  show (decide (0 ≤ x % 3) && decide (x % 3 ≤ 2)) = true
  rw [decide_eq_true (Int.emod_nonneg x (show (3 : Int) ≠ 0 by omega)), decide_eq_true (show x % 3 ≤ 2 by have := Int.emod_lt_of_pos x (show (0 : Int) < 3 by omega); omega)]
  rfl
/-- a row as the small games have it -/
structure RowSm (r : Row) : Prop where
  n : SOk 10 r.1
  o : 0 ≤ r.2.1 ∧ r.2.1 ≤ 2
  l : 1 ≤ r.2.2.length ∧ r.2.2.length ≤ 4
  w : ∀ w ∈ r.2.2, 0 ≤ w ∧ w ≤ 1000
theorem RowSm.ok {r : Row} (h : RowSm r) : RowOk r := ⟨h.n.mono (by omega), by have := h.l; omega, fun w hw => by have := h.w w hw; omega⟩
theorem red_len (ws : List Int) : (if gfold 0 ws = 0 then ws else ws.map (· / gfold 0 ws)).length = ws.length := by
  split
  · rfl
  · rw [List.length_map]
theorem red_le {ws : List Int} {m : Int} (hm : m < 2 ^ 200) (h : ∀ w ∈ ws, 0 ≤ w ∧ w ≤ m) : ∀ w ∈ (if gfold 0 ws = 0 then ws else ws.map (· / gfold 0 ws)), 0 ≤ w ∧ w ≤ m := by
  intro w hw
  split at hw
  · exact h w hw
  · rename_i hg
    obtain ⟨v, hv, rfl⟩ := List.mem_map.mp hw
    have hv := h v hv
    have hg0 := (gfold_ok (n := 2 ^ 200) ws 0 (by decide) (by decide) fun w hw => by have := h w hw; omega).1
    refine ⟨Int.ediv_nonneg hv.1 hg0, ?_⟩
    have := Int.ediv_le_self (gfold 0 ws) hv.1
    omega

end Lk
end

section
set_option Elab.async false
set_option linter.all false
set_option maxRecDepth 100000
set_option autoImplicit false
set_option maxHeartbeats 1000000
namespace Lk
open Fl PySem
local macro_rules | `(tactic| fail) => `(tactic| first
  | with_reducible first
    | refine tr_seqS ?_ | refine tr_op2 ?_ | refine tr_pure ?_ | refine tr_setM ?_ | refine tr_ifM ?_ | refine tr_boolM ?_ | refine tr_callB ?_ | refine tr_consM ?_ | refine tr_setIxM ?_ | refine tr_andM ?_ | refine tr_orM ?_ | refine tr_notM ?_ | refine tr_retM ?_
    | refine tr_frzM ?_ | refine tr_callM ?_ | refine tr_consR ?_ | refine tr_argV ?_ | refine tr_forM ?_ | refine tr_itM ?_ | refine tr_setO ?_ | refine tr_lstM ?_ | refine tr_tupM ?_ | refine tr_bind ?_
    | refine tr_splS ?_ | refine tr_setKM ?_ | refine tr_inKM ?_ | refine tr_getM ?_ | refine tr_catM ?_ | refine tr_joinM ?_ | refine tr_inQM ?_ | refine tr_landV ?_ | refine tr_landM ?_ | refine tr_lorM ?_ | refine tr_bM ?_ | refine tr_ownC ?_ | refine tr_retO ?_ | refine tr_exprM ?_ | refine tr_seqM ?_ | refine tr_qM ?_ | refine tr_qN ?_ | refine tr_isiM ?_ | refine tr_negM ?_ | refine tr_bitsM ?_ | refine tr_partM ?_ | refine tr_slM ?_ | refine tr_chainL ?_ | refine tr_iteT ?_ | refine tr_iteF ?_ | refine tr_iteNF ?_ | refine tr_iteNT ?_ | refine tr_parM ?_
    | refine tr_consN ?_ | refine tr_newM ?_ | refine tr_callN ?_ | refine tr_asgM ?_ | refine tr_lcM ?_
  | ((with_reducible refine' tr_var ?e ?k); (case e => exact rfl))
  | with_reducible refine tr_chainM ?_
  | ((with_reducible refine' tr_ixOM ?e ?k); (case e => exact rfl))
  | ((with_reducible refine' tr_ixKM ?e ?k); (case e => exact rfl))
  | ((with_reducible refine' tr_frzSk ?e ?k); (case e => exact rfl); dsimp only [List.set])
  | ((with_reducible refine' tr_frzS ?e ?k); (case e => exact rfl); dsimp only [List.set])
  | ((with_reducible refine' tr_retVk ?e ?k); (case e => exact rfl))
  | ((with_reducible refine' tr_argR ?e ?f ?k); (case e => exact rfl); (case f => exact rfl))
  | ((with_reducible refine' tr_argB ?e ?f ?k); (case e => exact rfl); (case f => exact rfl))
  | ((with_reducible refine' tr_appM ?e ?k); (case e => exact rfl))
  | ((with_reducible refine' tr_retV ?e ?k); (case e => exact rfl))
  | ((with_reducible refine' tr_ownM ?e ?k); (case e => exact rfl))
  | ((with_reducible refine' tr_opt ?e ?k); (case e => exact rfl))
  | with_reducible refine tr_mul (by first | exact .inl (.inr ⟨by decide, by decide⟩) | exact .inl (.inl ⟨by omega, by omega⟩)) ?_
  | with_reducible refine tr_mod (by first | decide | omega) ?_
  | with_reducible refine tr_fdiv (by first | decide | assumption) ?_
  | ((with_reducible refine' ⟨_, _, _, _, ?e, ?f, ?g, ?k⟩); (case e => exact rfl); (case f => exact rfl); (case g => exact rfl); dsimp only [List.set])
  | ((with_reducible refine' ⟨_, _, (?e : _ = some (some (Dv.o _ _))), ?k⟩); (case e => exact rfl))
  | ((with_reducible refine' ⟨?e, ?k⟩); (case e => (with_reducible show okSlot _ _ = true); exact rfl); dsimp only [List.set])
  | ((with_reducible refine' ⟨?e, ?k⟩); (case e => (with_reducible show isO _ _ = true); exact rfl))
  | ((with_reducible refine' ⟨?e, ?k⟩); (case e => (with_reducible show List.length _ ≤ sizeLine); exact le_sz rfl))
  | ((with_reducible refine' ⟨?e, ?k⟩); (case e => (with_reducible show noIo _ _ = true); exact rfl))
  | ((with_reducible refine' ⟨okAt ?h ?e, ?k⟩); (case e => exact rfl); (case h => assumption); dsimp only [List.set])
  | ((with_reducible refine' ⟨noIoAt ?h ?e, ?k⟩); (case e => exact rfl); (case h => assumption))
  | ((with_reducible refine' ⟨_, (?e : _ = some (some (Dv.p _))), ?k⟩); (case e => exact rfl))
  | ((with_reducible refine' ⟨?e, ?k⟩); (case e => (with_reducible show isK _ _ = true); exact rfl)))
open TL (tl)
def asS : D → Option Str
  | .str s => some s
  | _ => none
theorem tr_splS {mo m : M D} {ρ : Fl.Env} {P : Dv → Fl.Env → Prop} (h : Tr (mo ρ) fun d ρ1 => Tr (optM (asS d) ρ1) fun a ρ2 => Tr (m ρ2) fun e ρ3 => Tr (optM (asS e) ρ3) fun b ρ4 => (b.length == 0) = false ∧ a.length + 2 ≤ sizeLine ∧ P (.o false ((Txt.split a b).map D.str)) ρ4) : Tr (splM mo m ρ) P := by
  refine tr_splM (h.mono fun d ρ1 q => ?_)
  cases d with
  | str a =>
    have q : Tr (m ρ1) _ := q
    refine ⟨a, rfl, q.mono fun e ρ3 q => ?_⟩
    cases e with
    | str b =>
      obtain ⟨h1, h2, q⟩ := (show (b.length == 0) = false ∧ a.length + 2 ≤ sizeLine ∧ P (.o false ((Txt.split a b).map D.str)) ρ3 from q)
      exact ⟨b, rfl, h1, h2, q⟩
    | _ => exact q.elim
  | _ => exact q.elim
/-! ### signs -/

def isDg (c : Nat) : Bool := decide (48 ≤ c) && decide (c ≤ 57)
/-- the number that some signs write -/
def numV (l : List Nat) : Option Int := if ((1 ≤ l.length ∧ l.length ≤ 40) ∧ l.all isDg = true) ∧ ¬ (l.head? = some 48 ∧ 1 < l.length) then some ((NumText.digitsVal l : Nat) : Int) else none
def intV (l : List Nat) : Option Int := match l with
  | 45 :: r => (numV r).bind fun n => if n = 0 then none else some (-n)
  | l => numV l
def optI : Option Int → D
  | none => .non
  | some n => .int n
theorem DGT_eq : DGT = [48, 49, 50, 51, 52, 53, 54, 55, 56, 57] := by decide +kernel
theorem mem_DGT (c : Nat) : decide (c ∈ DGT) = isDg c := by
  rw [DGT_eq]
  unfold isDg
  by_cases h : 48 ≤ c ∧ c ≤ 57
  · rw [decide_eq_true h.1, decide_eq_true h.2]
    have : c = 48 ∨ c = 49 ∨ c = 50 ∨ c = 51 ∨ c = 52 ∨ c = 53 ∨ c = 54 ∨ c = 55 ∨ c = 56 ∨ c = 57 := by omega
    rcases this with h | h | h | h | h | h | h | h | h | h <;> subst h <;> decide
  · have h1 : (decide (48 ≤ c) && decide (c ≤ 57)) = false := by
      rw [Bool.and_eq_false_iff, decide_eq_false_iff_not, decide_eq_false_iff_not]; omega
    rw [h1, decide_eq_false_iff_not]
    intro hm
    simp only [List.mem_cons, List.not_mem_nil, or_false] at hm
    omega
theorem int_digits {s : Str} (h : (tl s).all isDg = true) (h1 : 1 ≤ (tl s).length) (h2 : (tl s).length ≤ 40) : f1 intF1 [.str s] = some (.int ((NumText.digitsVal (tl s) : Nat) : Int)) := by
  have e : PySem.intText? s = some ((NumText.digitsVal (tl s) : Nat) : Int) := intText_digits (x := s) (fun c hc => by
      have z : (decide (48 ≤ c) && decide (c ≤ 57)) = true := List.all_eq_true.mp h c hc
      rw [Bool.and_eq_true, decide_eq_true_eq, decide_eq_true_eq] at z
      exact z) (by intro e; have e : tl s = [] := e; rw [e] at h1; simp at h1) (by rw [TL.len_tl]; omega)
  show (if s.length ≤ 640 then (PySem.intText? s).map D.int else none) = _
  rw [if_pos (by rw [TL.len_tl]; omega), e]
  rfl
theorem len_str {s : Str} {n : Nat} (hs : SOk n s) (hn : n ≤ 1000000) : lenF (.str s) = some (.int (tl s).length) := by
  show (if s.length ≤ 2 ^ 24 then some (D.int s.length) else none) = _
  rw [if_pos (by have := hs.1; omega), TL.len_tl]

end Lk
end

section
set_option Elab.async false
set_option linter.all false
set_option maxRecDepth 100000
set_option autoImplicit false
set_option maxHeartbeats 1000000
namespace Lk
open Fl PySem
local macro_rules | `(tactic| fail) => `(tactic| first
  | with_reducible first
    | refine tr_seqS ?_ | refine tr_op2 ?_ | refine tr_pure ?_ | refine tr_setM ?_ | refine tr_ifM ?_ | refine tr_boolM ?_ | refine tr_callB ?_ | refine tr_consM ?_ | refine tr_setIxM ?_ | refine tr_andM ?_ | refine tr_orM ?_ | refine tr_notM ?_ | refine tr_retM ?_
    | refine tr_frzM ?_ | refine tr_callM ?_ | refine tr_consR ?_ | refine tr_argV ?_ | refine tr_forM ?_ | refine tr_itM ?_ | refine tr_setO ?_ | refine tr_lstM ?_ | refine tr_tupM ?_ | refine tr_bind ?_
    | refine tr_splS ?_ | refine tr_setKM ?_ | refine tr_inKM ?_ | refine tr_getM ?_ | refine tr_catM ?_ | refine tr_joinM ?_ | refine tr_inQM ?_ | refine tr_landV ?_ | refine tr_landM ?_ | refine tr_lorM ?_ | refine tr_bM ?_ | refine tr_ownC ?_ | refine tr_retO ?_ | refine tr_exprM ?_ | refine tr_seqM ?_ | refine tr_qM ?_ | refine tr_qN ?_ | refine tr_isiM ?_ | refine tr_negM ?_ | refine tr_bitsM ?_ | refine tr_partM ?_ | refine tr_slM ?_ | refine tr_chainL ?_ | refine tr_iteT ?_ | refine tr_iteF ?_ | refine tr_iteNF ?_ | refine tr_iteNT ?_ | refine tr_parM ?_
    | refine tr_consN ?_ | refine tr_newM ?_ | refine tr_callN ?_ | refine tr_asgM ?_ | refine tr_lcM ?_
  | ((with_reducible refine' tr_var ?e ?k); (case e => exact rfl))
  | with_reducible refine tr_chainM ?_
  | ((with_reducible refine' tr_ixOM ?e ?k); (case e => exact rfl))
  | ((with_reducible refine' tr_ixKM ?e ?k); (case e => exact rfl))
  | ((with_reducible refine' tr_frzSk ?e ?k); (case e => exact rfl); dsimp only [List.set])
  | ((with_reducible refine' tr_frzS ?e ?k); (case e => exact rfl); dsimp only [List.set])
  | ((with_reducible refine' tr_retVk ?e ?k); (case e => exact rfl))
  | ((with_reducible refine' tr_argR ?e ?f ?k); (case e => exact rfl); (case f => exact rfl))
  | ((with_reducible refine' tr_argB ?e ?f ?k); (case e => exact rfl); (case f => exact rfl))
  | ((with_reducible refine' tr_appM ?e ?k); (case e => exact rfl))
  | ((with_reducible refine' tr_retV ?e ?k); (case e => exact rfl))
  | ((with_reducible refine' tr_ownM ?e ?k); (case e => exact rfl))
  | ((with_reducible refine' tr_opt ?e ?k); (case e => exact rfl))
  | with_reducible refine tr_mul (by first | exact .inl (.inr ⟨by decide, by decide⟩) | exact .inl (.inl ⟨by omega, by omega⟩)) ?_
  | with_reducible refine tr_mod (by first | decide | omega) ?_
  | with_reducible refine tr_fdiv (by first | decide | assumption) ?_
  | ((with_reducible refine' ⟨_, _, _, _, ?e, ?f, ?g, ?k⟩); (case e => exact rfl); (case f => exact rfl); (case g => exact rfl); dsimp only [List.set])
  | ((with_reducible refine' ⟨_, _, (?e : _ = some (some (Dv.o _ _))), ?k⟩); (case e => exact rfl))
  | ((with_reducible refine' ⟨?e, ?k⟩); (case e => (with_reducible show okSlot _ _ = true); exact rfl); dsimp only [List.set])
  | ((with_reducible refine' ⟨?e, ?k⟩); (case e => (with_reducible show isO _ _ = true); exact rfl))
  | ((with_reducible refine' ⟨?e, ?k⟩); (case e => (with_reducible show List.length _ ≤ sizeLine); exact le_sz rfl))
  | ((with_reducible refine' ⟨?e, ?k⟩); (case e => (with_reducible show noIo _ _ = true); exact rfl))
  | ((with_reducible refine' ⟨okAt ?h ?e, ?k⟩); (case e => exact rfl); (case h => assumption); dsimp only [List.set])
  | ((with_reducible refine' ⟨noIoAt ?h ?e, ?k⟩); (case e => exact rfl); (case h => assumption))
  | ((with_reducible refine' ⟨_, (?e : _ = some (some (Dv.p _))), ?k⟩); (case e => exact rfl))
  | ((with_reducible refine' ⟨?e, ?k⟩); (case e => (with_reducible show isK _ _ = true); exact rfl)))
open TL (tl)
theorem ix0_str {s : Str} {n : Nat} (hs : SOk n s) (hn : n ≤ 1000000) {c : Nat} {r : List Nat} (e : tl s = c :: r) : ixF (.str s) (.int 0) = some (.str ⟨#[c]⟩) := by
  have e2 : s.cps.toList = c :: r := e
  show (if s.length ≤ 2 ^ 24 then (L2.atI s.cps.toList 0).map fun c => D.str ⟨#[c]⟩ else none) = _
  rw [if_pos (by have := hs.1; omega), e2, show L2.atI (c :: r) 0 = some c by unfold L2.atI L2.ixN; rw [if_pos (by omega), if_pos (by simp only [List.length_cons]; omega)]; rfl]
  rfl
theorem sign_eq (a b : Nat) : decide ((⟨#[a]⟩ : Str) = ⟨#[b]⟩) = decide (a = b) := by
  by_cases hab : a = b
  · subst hab; simp
  · rw [decide_eq_false hab, decide_eq_false]
    intro z
    cases z
    exact hab rfl
theorem str0 : ("0" : Str) = ⟨#[48]⟩ := by decide +kernel
theorem numV_none1 {l : List Nat} (h : ¬ (1 ≤ l.length ∧ l.length ≤ 40)) : numV l = none := if_neg fun z => h z.1.1
theorem numV_none2 {l : List Nat} (h : l.all isDg = false) : numV l = none := if_neg fun z => by rw [h] at z; exact absurd z.1.2 (by simp)
theorem numV_none3 {l : List Nat} (h : l.head? = some 48 ∧ 1 < l.length) : numV l = none := if_neg fun z => z.2 h
theorem numV_some {l : List Nat} (h1 : 1 ≤ l.length ∧ l.length ≤ 40) (h2 : l.all isDg = true) (h3 : ¬ (l.head? = some 48 ∧ 1 < l.length)) : numV l = some ((NumText.digitsVal l : Nat) : Int) := if_pos ⟨⟨h1, h2⟩, h3⟩
theorem number_in_rs {s : Str} {n : Nat} {P : Dv → List Dv → Prop} (hs : SOk n s) (hn : n ≤ 1000000) (h : P (.p (optI (numV (tl s)))) [.p (.str s)]) : RS (m_number_in [.p (.str s)]) P := by
  refine rs_fn rfl ?_
  show Tr (b_number_in [some (.p (.str s)), none]) _
  unfold b_number_in
  have hlf : f1 lenF [.str s] = some (.int (tl s).length) := len_str hs hn
  refine tr_seqI (fun ρ1 => ρ1 = [some (.p (.str s)), none] ∧ 1 ≤ (tl s).length ∧ (tl s).length ≤ 40) ?_ ?_
  · repeat fail
    refine tr_opt hlf ?_
    repeat fail
    refine tr_ite (fun h1 => ?_) (fun h1 => ?_)
    · have h2 : ¬ (1 ≤ (tl s).length ∧ (tl s).length ≤ 40) := by
        simp only [Bool.not_eq_true', Bool.and_eq_false_iff, decide_eq_false_iff_not] at h1; omega
      rw [numV_none1 h2] at h
      repeat fail
      exact h
    · have h2 : 1 ≤ (tl s).length ∧ (tl s).length ≤ 40 := by
        simp only [Bool.not_eq_false', Bool.and_eq_true, decide_eq_true_eq] at h1; omega
      repeat fail
      exact ⟨rfl, h2⟩
  rintro _ ⟨rfl, h1, h2⟩
  refine tr_seqI (fun ρ1 => (∃ x, ρ1 = [some (.p (.str s)), x]) ∧ (tl s).all isDg = true) ?_ ?_
  · repeat fail
    refine tr_forR (g := fun c => D.str ⟨#[c]⟩) (fun r ρ1 => (∃ x, OkS x ∧ ρ1 = [some (.p (.str s)), x]) ∧ (tl s).all isDg = r.all isDg) (tl s) _ ⟨⟨none, .n, rfl⟩, rfl⟩ ?_ ?_
    · rintro c r ρ1 ⟨⟨x, hx, rfl⟩, h3⟩
      refine ⟨_, tgN_ok (okAt hx rfl), ?_⟩
      dsimp only [List.set]
      rw [List.all_cons] at h3
      repeat fail
      refine tr_ite (fun h4 => ?_) (fun h4 => ?_)
      · have h5 : isDg c = false := by
          rw [← mem_DGT]
          change (!decide (c ∈ DGT)) = true at h4
          simpa using h4
        rw [h5, Bool.false_and] at h3
        rw [numV_none2 h3] at h
        repeat fail
        exact h
      · have h5 : isDg c = true := by
          rw [← mem_DGT]
          change (!decide (c ∈ DGT)) = false at h4
          simpa using h4
        rw [h5, Bool.true_and] at h3
        repeat fail
        exact ⟨⟨_, .p, rfl⟩, h3⟩
    · rintro ρ1 ⟨⟨x, hx, rfl⟩, h3⟩
      exact ⟨⟨x, rfl⟩, h3⟩
  rintro _ ⟨⟨x, rfl⟩, h3⟩
  obtain ⟨c, r, e⟩ : ∃ c r, tl s = c :: r := by
    cases e : tl s with
    | nil => rw [e] at h1; simp at h1
    | cons c r => exact ⟨c, r, rfl⟩
  have fin : ¬ ((tl s).head? = some 48 ∧ 1 < (tl s).length) → P (.p (.int ((NumText.digitsVal (tl s) : Nat) : Int))) [.p (.str s)] := fun h4 => by
    rw [numV_some ⟨h1, h2⟩ h3 h4] at h; exact h
  have hint := int_digits h3 h1 h2
  repeat fail
  refine tr_opt (ix0_str hs hn e) ?_
  repeat fail
  refine tr_ite (fun h4 => ?_) (fun h4 => ?_)
  · have h4 : decide ((⟨#[c]⟩ : Str) = "0") = true := h4
    rw [str0, sign_eq] at h4
    have h5 : c = 48 := of_decide_eq_true h4
    subst h5
    repeat fail
    refine tr_opt hlf ?_
    repeat fail
    refine tr_ite (fun h6 => ?_) (fun h6 => ?_)
    · have h7 : (1 : Int) < (tl s).length := of_decide_eq_true h6
      rw [numV_none3 ⟨by rw [e]; rfl, by omega⟩] at h
      repeat fail
      exact h
    · have h7 : ¬ (1 : Int) < (tl s).length := of_decide_eq_false h6
      repeat fail
      refine tr_opt hint ?_
      repeat fail
      exact fin fun z => h7 (by omega)
  · have h4 : decide ((⟨#[c]⟩ : Str) = "0") = false := h4
    rw [str0, sign_eq] at h4
    have h5 : c ≠ 48 := of_decide_eq_false h4
    repeat fail
    refine tr_opt hint ?_
    repeat fail
    exact fin fun z => by rw [e] at z; exact h5 (by simpa using z.1)

end Lk
end

section
set_option Elab.async false
set_option linter.all false
set_option maxRecDepth 100000
set_option autoImplicit false
set_option maxHeartbeats 1000000
namespace Lk
open Fl PySem
local macro_rules | `(tactic| fail) => `(tactic| first
  | with_reducible first
    | refine tr_seqS ?_ | refine tr_op2 ?_ | refine tr_pure ?_ | refine tr_setM ?_ | refine tr_ifM ?_ | refine tr_boolM ?_ | refine tr_callB ?_ | refine tr_consM ?_ | refine tr_setIxM ?_ | refine tr_andM ?_ | refine tr_orM ?_ | refine tr_notM ?_ | refine tr_retM ?_
    | refine tr_frzM ?_ | refine tr_callM ?_ | refine tr_consR ?_ | refine tr_argV ?_ | refine tr_forM ?_ | refine tr_itM ?_ | refine tr_setO ?_ | refine tr_lstM ?_ | refine tr_tupM ?_ | refine tr_bind ?_
    | refine tr_splS ?_ | refine tr_setKM ?_ | refine tr_inKM ?_ | refine tr_getM ?_ | refine tr_catM ?_ | refine tr_joinM ?_ | refine tr_inQM ?_ | refine tr_landV ?_ | refine tr_landM ?_ | refine tr_lorM ?_ | refine tr_bM ?_ | refine tr_ownC ?_ | refine tr_retO ?_ | refine tr_exprM ?_ | refine tr_seqM ?_ | refine tr_qM ?_ | refine tr_qN ?_ | refine tr_isiM ?_ | refine tr_negM ?_ | refine tr_bitsM ?_ | refine tr_partM ?_ | refine tr_slM ?_ | refine tr_chainL ?_ | refine tr_iteT ?_ | refine tr_iteF ?_ | refine tr_iteNF ?_ | refine tr_iteNT ?_ | refine tr_parM ?_
    | refine tr_consN ?_ | refine tr_newM ?_ | refine tr_callN ?_ | refine tr_asgM ?_ | refine tr_lcM ?_
  | ((with_reducible refine' tr_var ?e ?k); (case e => exact rfl))
  | with_reducible refine tr_chainM ?_
  | ((with_reducible refine' tr_ixOM ?e ?k); (case e => exact rfl))
  | ((with_reducible refine' tr_ixKM ?e ?k); (case e => exact rfl))
  | ((with_reducible refine' tr_frzSk ?e ?k); (case e => exact rfl); dsimp only [List.set])
  | ((with_reducible refine' tr_frzS ?e ?k); (case e => exact rfl); dsimp only [List.set])
  | ((with_reducible refine' tr_retVk ?e ?k); (case e => exact rfl))
  | ((with_reducible refine' tr_argR ?e ?f ?k); (case e => exact rfl); (case f => exact rfl))
  | ((with_reducible refine' tr_argB ?e ?f ?k); (case e => exact rfl); (case f => exact rfl))
  | ((with_reducible refine' tr_appM ?e ?k); (case e => exact rfl))
  | ((with_reducible refine' tr_retV ?e ?k); (case e => exact rfl))
  | ((with_reducible refine' tr_ownM ?e ?k); (case e => exact rfl))
  | ((with_reducible refine' tr_opt ?e ?k); (case e => exact rfl))
  | with_reducible refine tr_mul (by first | exact .inl (.inr ⟨by decide, by decide⟩) | exact .inl (.inl ⟨by omega, by omega⟩)) ?_
  | with_reducible refine tr_mod (by first | decide | omega) ?_
  | with_reducible refine tr_fdiv (by first | decide | assumption) ?_
  | ((with_reducible refine' ⟨_, _, _, _, ?e, ?f, ?g, ?k⟩); (case e => exact rfl); (case f => exact rfl); (case g => exact rfl); dsimp only [List.set])
  | ((with_reducible refine' ⟨_, _, (?e : _ = some (some (Dv.o _ _))), ?k⟩); (case e => exact rfl))
  | ((with_reducible refine' ⟨?e, ?k⟩); (case e => (with_reducible show okSlot _ _ = true); exact rfl); dsimp only [List.set])
  | ((with_reducible refine' ⟨?e, ?k⟩); (case e => (with_reducible show isO _ _ = true); exact rfl))
  | ((with_reducible refine' ⟨?e, ?k⟩); (case e => (with_reducible show List.length _ ≤ sizeLine); exact le_sz rfl))
  | ((with_reducible refine' ⟨?e, ?k⟩); (case e => (with_reducible show noIo _ _ = true); exact rfl))
  | ((with_reducible refine' ⟨okAt ?h ?e, ?k⟩); (case e => exact rfl); (case h => assumption); dsimp only [List.set])
  | ((with_reducible refine' ⟨noIoAt ?h ?e, ?k⟩); (case e => exact rfl); (case h => assumption))
  | ((with_reducible refine' ⟨_, (?e : _ = some (some (Dv.p _))), ?k⟩); (case e => exact rfl))
  | ((with_reducible refine' ⟨?e, ?k⟩); (case e => (with_reducible show isK _ _ = true); exact rfl)))
open TL (tl)
theorem own_number_rs {s : Str} {n : Nat} {P : Dv → List Dv → Prop} (hs : SOk n s) (hn : n ≤ 1000000) (h : P (.p (optI (numV (tl s)))) [.p (.str s)]) : RS (m__law_own_number [.p (.str s)]) P := by
  refine rs_fn rfl ?_
  show Tr (b__law_own_number [some (.p (.str s)), none]) _
  unfold b__law_own_number
  have hlf : f1 lenF [.str s] = some (.int (tl s).length) := len_str hs hn
  have hsl : (tl s).length ≤ 1000000 := by have := hs.1; rw [TL.len_tl] at this; omega
  refine tr_seqI (fun ρ1 => ρ1 = [some (.p (.str s)), none] ∧ (1 ≤ (tl s).length ∧ (tl s).length ≤ 40) ∧ (tl s).all isDg = true) ?_ ?_
  · repeat fail
    refine tr_opt hlf ?_
    repeat fail
    refine tr_ite (fun h1 => ?_) (fun h1 => ?_)
    · have h2 : ((tl s).length : Int) < 1 := of_decide_eq_true h1
      rw [numV_none1 (by omega)] at h
      repeat fail
      exact h
    have h2 : ¬ ((tl s).length : Int) < 1 := of_decide_eq_false h1
    repeat fail
    refine tr_opt hlf ?_
    repeat fail
    refine tr_ite (fun h3 => ?_) (fun h3 => ?_)
    · have h4 : (40 : Int) < ((tl s).length : Int) := of_decide_eq_true h3
      rw [numV_none1 (by omega)] at h
      repeat fail
      exact h
    have h4 : ¬ (40 : Int) < ((tl s).length : Int) := of_decide_eq_false h3
    repeat fail
    refine (tr_lcR (g := fun c => D.str ⟨#[c]⟩) (P := fun acc ρ1 => decide (acc = []) = (tl s).all isDg ∧ acc.length ≤ 1000000 ∧ ρ1 = [some (.p (.str s)), none])
      (fun q acc ρ1 => (tl s).all isDg = (decide (acc = []) && q.all isDg) ∧ acc.length + q.length ≤ 1000000 ∧ ρ1 = [some (.p (.str s)), none]) (tl s) _ ⟨rfl, by simpa using hsl, rfl⟩ ?_ ?_).mono ?_
    · rintro c q acc ρ1 ⟨h5, h6, rfl⟩
      refine ⟨_, tgN_ok rfl, ?_⟩
      dsimp only [List.set]
      rw [List.all_cons] at h5
      rw [List.length_cons] at h6
      repeat fail
      refine tr_ite (fun h7 => ?_) (fun h7 => ?_)
      · have h8 : isDg c = false := by
          rw [← mem_DGT]
          change (!decide (c ∈ DGT)) = true at h7
          simpa using h7
        rw [h8, Bool.false_and, Bool.and_false] at h5
        repeat fail
        refine ⟨by show acc.length < 2 ^ 24; omega, rfl, ?_, ?_, rfl⟩
        · rw [h5, decide_eq_false (by simp)]; rfl
        · rw [List.length_append]; show acc.length + 1 + q.length ≤ 1000000; omega
      · have h8 : isDg c = true := by
          rw [← mem_DGT]
          change (!decide (c ∈ DGT)) = false at h7
          simpa using h7
        rw [h8, Bool.true_and] at h5
        repeat fail
        exact ⟨h5, by omega, rfl⟩
    · rintro acc ρ1 ⟨h5, h6, rfl⟩
      exact ⟨by rw [h5, List.all_nil, Bool.and_true], by simpa using h6, rfl⟩
    rintro acc _ ⟨h5, h6, rfl⟩
    repeat fail
    refine tr_ite (fun h7 => ?_) (fun h7 => ?_)
    · have h8 : (0 : Int) < (acc.length : Int) := of_decide_eq_true h7
      rw [decide_eq_false (by intro e; rw [e] at h8; simp at h8)] at h5
      rw [numV_none2 h5.symm] at h
      repeat fail
      exact h
    · have h8 : ¬ (0 : Int) < (acc.length : Int) := of_decide_eq_false h7
      rw [decide_eq_true (List.eq_nil_of_length_eq_zero (by omega))] at h5
      repeat fail
      exact ⟨rfl, by omega, h5.symm⟩
  rintro _ ⟨rfl, ⟨h1, h2⟩, h3⟩
  obtain ⟨c, r, e⟩ : ∃ c r, tl s = c :: r := by
    cases e : tl s with
    | nil => rw [e] at h1; simp at h1
    | cons c r => exact ⟨c, r, rfl⟩
  have fin : ¬ ((tl s).head? = some 48 ∧ 1 < (tl s).length) → P (.p (.int ((NumText.digitsVal (tl s) : Nat) : Int))) [.p (.str s)] := fun h4 => by
    rw [numV_some ⟨h1, h2⟩ h3 h4] at h; exact h
  have hint := int_digits h3 h1 h2
  repeat fail
  refine tr_opt (ix0_str hs hn e) ?_
  repeat fail
  refine tr_ite (fun h4 => ?_) (fun h4 => ?_)
  · have h4 : decide ((⟨#[c]⟩ : Str) = "0") = true := h4
    rw [str0, sign_eq] at h4
    have h5 : c = 48 := of_decide_eq_true h4
    subst h5
    repeat fail
    refine tr_opt hlf ?_
    repeat fail
    refine tr_ite (fun h6 => ?_) (fun h6 => ?_)
    · have h7 : (1 : Int) < (tl s).length := of_decide_eq_true h6
      rw [numV_none3 ⟨by rw [e]; rfl, by omega⟩] at h
      repeat fail
      exact h
    · have h7 : ¬ (1 : Int) < (tl s).length := of_decide_eq_false h6
      repeat fail
      refine tr_opt hint ?_
      repeat fail
      exact fin fun z => h7 (by omega)
  · have h4 : decide ((⟨#[c]⟩ : Str) = "0") = false := h4
    rw [str0, sign_eq] at h4
    have h5 : c ≠ 48 := of_decide_eq_false h4
    repeat fail
    refine tr_opt hint ?_
    repeat fail
    exact fin fun z => by rw [e] at z; exact h5 (by simpa using z.1)

end Lk
end

section
set_option Elab.async false
set_option linter.all false
set_option maxRecDepth 100000
set_option autoImplicit false
set_option maxHeartbeats 1000000
namespace Lk
open Fl PySem
local macro_rules | `(tactic| fail) => `(tactic| first
  | with_reducible first
    | refine tr_seqS ?_ | refine tr_op2 ?_ | refine tr_pure ?_ | refine tr_setM ?_ | refine tr_ifM ?_ | refine tr_boolM ?_ | refine tr_callB ?_ | refine tr_consM ?_ | refine tr_setIxM ?_ | refine tr_andM ?_ | refine tr_orM ?_ | refine tr_notM ?_ | refine tr_retM ?_
    | refine tr_frzM ?_ | refine tr_callM ?_ | refine tr_consR ?_ | refine tr_argV ?_ | refine tr_forM ?_ | refine tr_itM ?_ | refine tr_setO ?_ | refine tr_lstM ?_ | refine tr_tupM ?_ | refine tr_bind ?_
    | refine tr_splS ?_ | refine tr_setKM ?_ | refine tr_inKM ?_ | refine tr_getM ?_ | refine tr_catM ?_ | refine tr_joinM ?_ | refine tr_inQM ?_ | refine tr_landV ?_ | refine tr_landM ?_ | refine tr_lorM ?_ | refine tr_bM ?_ | refine tr_ownC ?_ | refine tr_retO ?_ | refine tr_exprM ?_ | refine tr_seqM ?_ | refine tr_qM ?_ | refine tr_qN ?_ | refine tr_isiM ?_ | refine tr_negM ?_ | refine tr_bitsM ?_ | refine tr_partM ?_ | refine tr_slM ?_ | refine tr_chainL ?_ | refine tr_iteT ?_ | refine tr_iteF ?_ | refine tr_iteNF ?_ | refine tr_iteNT ?_ | refine tr_parM ?_
    | refine tr_consN ?_ | refine tr_newM ?_ | refine tr_callN ?_ | refine tr_asgM ?_ | refine tr_lcM ?_
  | ((with_reducible refine' tr_var ?e ?k); (case e => exact rfl))
  | with_reducible refine tr_chainM ?_
  | ((with_reducible refine' tr_ixOM ?e ?k); (case e => exact rfl))
  | ((with_reducible refine' tr_ixKM ?e ?k); (case e => exact rfl))
  | ((with_reducible refine' tr_frzSk ?e ?k); (case e => exact rfl); dsimp only [List.set])
  | ((with_reducible refine' tr_frzS ?e ?k); (case e => exact rfl); dsimp only [List.set])
  | ((with_reducible refine' tr_retVk ?e ?k); (case e => exact rfl))
  | ((with_reducible refine' tr_argR ?e ?f ?k); (case e => exact rfl); (case f => exact rfl))
  | ((with_reducible refine' tr_argB ?e ?f ?k); (case e => exact rfl); (case f => exact rfl))
  | ((with_reducible refine' tr_appM ?e ?k); (case e => exact rfl))
  | ((with_reducible refine' tr_retV ?e ?k); (case e => exact rfl))
  | ((with_reducible refine' tr_ownM ?e ?k); (case e => exact rfl))
  | ((with_reducible refine' tr_opt ?e ?k); (case e => exact rfl))
  | with_reducible refine tr_mul (by first | exact .inl (.inr ⟨by decide, by decide⟩) | exact .inl (.inl ⟨by omega, by omega⟩)) ?_
  | with_reducible refine tr_mod (by first | decide | omega) ?_
  | with_reducible refine tr_fdiv (by first | decide | assumption) ?_
  | ((with_reducible refine' ⟨_, _, _, _, ?e, ?f, ?g, ?k⟩); (case e => exact rfl); (case f => exact rfl); (case g => exact rfl); dsimp only [List.set])
  | ((with_reducible refine' ⟨_, _, (?e : _ = some (some (Dv.o _ _))), ?k⟩); (case e => exact rfl))
  | ((with_reducible refine' ⟨?e, ?k⟩); (case e => (with_reducible show okSlot _ _ = true); exact rfl); dsimp only [List.set])
  | ((with_reducible refine' ⟨?e, ?k⟩); (case e => (with_reducible show isO _ _ = true); exact rfl))
  | ((with_reducible refine' ⟨?e, ?k⟩); (case e => (with_reducible show List.length _ ≤ sizeLine); exact le_sz rfl))
  | ((with_reducible refine' ⟨?e, ?k⟩); (case e => (with_reducible show noIo _ _ = true); exact rfl))
  | ((with_reducible refine' ⟨okAt ?h ?e, ?k⟩); (case e => exact rfl); (case h => assumption); dsimp only [List.set])
  | ((with_reducible refine' ⟨noIoAt ?h ?e, ?k⟩); (case e => exact rfl); (case h => assumption))
  | ((with_reducible refine' ⟨_, (?e : _ = some (some (Dv.p _))), ?k⟩); (case e => exact rfl))
  | ((with_reducible refine' ⟨?e, ?k⟩); (case e => (with_reducible show isK _ _ = true); exact rfl)))
open TL (tl)
def mkS (l : List Nat) : Str := ⟨l.toArray⟩
theorem tl_mkS (l : List Nat) : tl (mkS l) = l := rfl
theorem mkS_tl (s : Str) : mkS (tl s) = s := TL.mk_tl s
theorem okS_iff {n : Nat} {s : Str} : SOk n s ↔ (tl s).length ≤ n ∧ PyData.strOk s = true := by
  unfold SOk; rw [TL.len_tl]
theorem sok_sub {n m : Nat} {s : Str} {l : List Nat} (h : SOk n s) (hl : l.length ≤ m) (hm : ∀ c ∈ l, c ∈ tl s) : SOk m (mkS l) := by
  refine ⟨by rw [TL.len_tl]; exact hl, ?_⟩
  have h2 := h.2
  unfold PyData.strOk at h2 ⊢
  rw [← Array.all_toList, List.all_eq_true] at h2 ⊢
  exact fun c hc => h2 c (hm c hc)
theorem sl_take1 {s : Str} {n : Nat} (hs : SOk n s) (hn : n ≤ 1000000) : slF (.str s) none (some 1) = some (.str (mkS ((tl s).take 1))) := by
  show (if s.length ≤ 2 ^ 24 then some (D.str (L2.cutS s none (some 1))) else none) = _
  rw [if_pos (by have := hs.1; omega)]
  congr 2
  refine TL.ext_tl ?_
  show ((tl s).drop 0).take (min 1 s.length - 0) = (tl s).take 1
  rw [TL.len_tl, List.drop_zero, Nat.sub_zero]
  rw [List.take_eq_take_iff]
  omega
theorem sl_drop1 {s : Str} {n : Nat} (hs : SOk n s) (hn : n ≤ 1000000) : slF (.str s) (some 1) none = some (.str (mkS ((tl s).drop 1))) := by
  show (if s.length ≤ 2 ^ 24 then some (D.str (L2.cutS s (some 1) none)) else none) = _
  rw [if_pos (by have := hs.1; omega)]
  congr 2
  refine TL.ext_tl ?_
  show ((tl s).drop (min 1 s.length)).take (s.length - min 1 s.length) = (tl s).drop 1
  rw [TL.len_tl]
  rw [List.take_of_length_le (by rw [List.length_drop]; omega)]
  by_cases h : 1 ≤ (tl s).length
  · rw [show min 1 (tl s).length = 1 by omega]
  · rw [List.eq_nil_of_length_eq_zero (by omega : (tl s).length = 0)]; rfl
theorem sok_drop1 {n : Nat} {s : Str} (h : SOk n s) : SOk n (mkS ((tl s).drop 1)) := sok_sub h (by rw [List.length_drop]; have := (okS_iff.mp h).1; omega) fun c hc => List.mem_of_mem_drop hc
theorem strM : ("-" : Str) = mkS [45] := by decide +kernel
theorem mkS_eq (a b : List Nat) : decide (mkS a = mkS b) = decide (a = b) := by
  by_cases h : a = b
  · subst h; simp
  · rw [decide_eq_false h, decide_eq_false]
    intro z
    exact h (by have := congrArg tl z; exact this)
theorem take1_m (l : List Nat) : decide (mkS (l.take 1) = "-") = decide (l.head? = some 45) := by
  rw [strM, mkS_eq]
  cases l with
  | nil => rfl
  | cons c r =>
    by_cases h : c = 45
    · subst h; simp
    · rw [decide_eq_false, decide_eq_false]
      · simpa using h
      · simpa using h
theorem intV_m {l : List Nat} (h : l.head? = some 45) : intV l = (numV (l.drop 1)).bind fun n => if n = 0 then none else some (-n) := by
  cases l with
  | nil => cases h
  | cons c r =>
    have : c = 45 := by simpa using h
    subst this
    rfl
theorem intV_n {l : List Nat} (h : ¬ l.head? = some 45) : intV l = numV l := by
  unfold intV
  split
  · exact absurd rfl h
  · rfl
theorem integer_in_rs {s : Str} {n : Nat} {P : Dv → List Dv → Prop} (hs : SOk n s) (hn : n ≤ 1000000) (h : P (.p (optI (intV (tl s)))) [.p (.str s)]) : RS (m_integer_in [.p (.str s)]) P := by
  refine rs_fn rfl ?_
  show Tr (b_integer_in [some (.p (.str s)), none]) _
  unfold b_integer_in
  repeat fail
  refine tr_opt (sl_take1 hs hn) ?_
  repeat fail
  refine tr_ite (fun h1 => ?_) (fun h1 => ?_)
  · have h2 : (!decide (mkS ((tl s).take 1) = "-")) = true := h1
    rw [take1_m] at h2
    have h3 : ¬ (tl s).head? = some 45 := by simpa using h2
    rw [intV_n h3] at h
    repeat fail
    refine tr_call rfl rfl rfl (number_in_rs hs hn ?_)
    dsimp only [updP, refsOf]
    repeat fail
    exact h
  · have h2 : (!decide (mkS ((tl s).take 1) = "-")) = false := h1
    rw [take1_m] at h2
    have h3 : (tl s).head? = some 45 := by simpa using h2
    rw [intV_m h3] at h
    repeat fail
    refine tr_opt (sl_drop1 hs hn) ?_
    repeat fail
    refine tr_call rfl rfl rfl (number_in_rs (sok_drop1 hs) hn ?_)
    rw [tl_mkS]
    dsimp only [updP, refsOf]
    repeat fail
    cases e : numV ((tl s).drop 1) with
    | none =>
      rw [e] at h
      unfold optI
      repeat fail
      exact h
    | some v =>
      rw [e] at h
      unfold optI
      repeat fail
      refine tr_ite (fun h4 => ?_) (fun h4 => ?_)
      · have h5 : v = 0 := of_decide_eq_true h4
        have h : P (.p (optI (if v = 0 then none else some (-v)))) [.p (.str s)] := h
        rw [if_pos h5] at h
        repeat fail
        exact h
      · have h5 : ¬ v = 0 := of_decide_eq_false h4
        have h : P (.p (optI (if v = 0 then none else some (-v)))) [.p (.str s)] := h
        rw [if_neg h5] at h
        repeat fail
        exact h
theorem own_integer_rs {s : Str} {n : Nat} {P : Dv → List Dv → Prop} (hs : SOk n s) (hn : n ≤ 1000000) (h : P (.p (optI (intV (tl s)))) [.p (.str s)]) : RS (m__law_own_integer [.p (.str s)]) P := by
  refine rs_fn rfl ?_
  show Tr (b__law_own_integer [some (.p (.str s)), none]) _
  unfold b__law_own_integer
  repeat fail
  refine tr_opt (sl_take1 hs hn) ?_
  repeat fail
  refine tr_ite (fun h1 => ?_) (fun h1 => ?_)
  · have h2 : decide (mkS ((tl s).take 1) = "-") = true := h1
    rw [take1_m] at h2
    have h3 : (tl s).head? = some 45 := by simpa using h2
    rw [intV_m h3] at h
    repeat fail
    refine tr_opt (sl_drop1 hs hn) ?_
    repeat fail
    refine tr_call rfl rfl rfl (own_number_rs (sok_drop1 hs) hn ?_)
    rw [tl_mkS]
    dsimp only [updP, refsOf]
    repeat fail
    cases e : numV ((tl s).drop 1) with
    | none =>
      rw [e] at h
      unfold optI
      repeat fail
      exact h
    | some v =>
      rw [e] at h
      unfold optI
      repeat fail
      refine tr_ite (fun h4 => ?_) (fun h4 => ?_)
      · have h5 : v = 0 := of_decide_eq_true h4
        have h : P (.p (optI (if v = 0 then none else some (-v)))) [.p (.str s)] := h
        rw [if_pos h5] at h
        repeat fail
        exact h
      · have h5 : ¬ v = 0 := of_decide_eq_false h4
        have h : P (.p (optI (if v = 0 then none else some (-v)))) [.p (.str s)] := h
        rw [if_neg h5] at h
        repeat fail
        exact h
  · have h2 : decide (mkS ((tl s).take 1) = "-") = false := h1
    rw [take1_m] at h2
    have h3 : ¬ (tl s).head? = some 45 := by simpa using h2
    rw [intV_n h3] at h
    repeat fail
    refine tr_call rfl rfl rfl (own_number_rs hs hn ?_)
    dsimp only [updP, refsOf]
    repeat fail
    exact h

end Lk
end

section
set_option Elab.async false
set_option linter.all false
set_option maxRecDepth 100000
set_option autoImplicit false
set_option maxHeartbeats 1000000
namespace Lk
open Fl PySem
local macro_rules | `(tactic| fail) => `(tactic| first
  | with_reducible first
    | refine tr_seqS ?_ | refine tr_op2 ?_ | refine tr_pure ?_ | refine tr_setM ?_ | refine tr_ifM ?_ | refine tr_boolM ?_ | refine tr_callB ?_ | refine tr_consM ?_ | refine tr_setIxM ?_ | refine tr_andM ?_ | refine tr_orM ?_ | refine tr_notM ?_ | refine tr_retM ?_
    | refine tr_frzM ?_ | refine tr_callM ?_ | refine tr_consR ?_ | refine tr_argV ?_ | refine tr_forM ?_ | refine tr_itM ?_ | refine tr_setO ?_ | refine tr_lstM ?_ | refine tr_tupM ?_ | refine tr_bind ?_
    | refine tr_splS ?_ | refine tr_setKM ?_ | refine tr_inKM ?_ | refine tr_getM ?_ | refine tr_catM ?_ | refine tr_joinM ?_ | refine tr_inQM ?_ | refine tr_landV ?_ | refine tr_landM ?_ | refine tr_lorM ?_ | refine tr_bM ?_ | refine tr_ownC ?_ | refine tr_retO ?_ | refine tr_exprM ?_ | refine tr_seqM ?_ | refine tr_qM ?_ | refine tr_qN ?_ | refine tr_isiM ?_ | refine tr_negM ?_ | refine tr_bitsM ?_ | refine tr_partM ?_ | refine tr_slM ?_ | refine tr_chainL ?_ | refine tr_iteT ?_ | refine tr_iteF ?_ | refine tr_iteNF ?_ | refine tr_iteNT ?_ | refine tr_parM ?_
    | refine tr_consN ?_ | refine tr_newM ?_ | refine tr_callN ?_ | refine tr_asgM ?_ | refine tr_lcM ?_
  | ((with_reducible refine' tr_var ?e ?k); (case e => exact rfl))
  | with_reducible refine tr_chainM ?_
  | ((with_reducible refine' tr_ixOM ?e ?k); (case e => exact rfl))
  | ((with_reducible refine' tr_ixKM ?e ?k); (case e => exact rfl))
  | ((with_reducible refine' tr_frzSk ?e ?k); (case e => exact rfl); dsimp only [List.set])
  | ((with_reducible refine' tr_frzS ?e ?k); (case e => exact rfl); dsimp only [List.set])
  | ((with_reducible refine' tr_retVk ?e ?k); (case e => exact rfl))
  | ((with_reducible refine' tr_argR ?e ?f ?k); (case e => exact rfl); (case f => exact rfl))
  | ((with_reducible refine' tr_argB ?e ?f ?k); (case e => exact rfl); (case f => exact rfl))
  | ((with_reducible refine' tr_appM ?e ?k); (case e => exact rfl))
  | ((with_reducible refine' tr_retV ?e ?k); (case e => exact rfl))
  | ((with_reducible refine' tr_ownM ?e ?k); (case e => exact rfl))
  | ((with_reducible refine' tr_opt ?e ?k); (case e => exact rfl))
  | with_reducible refine tr_mul (by first | exact .inl (.inr ⟨by decide, by decide⟩) | exact .inl (.inl ⟨by omega, by omega⟩)) ?_
  | with_reducible refine tr_mod (by first | decide | omega) ?_
  | with_reducible refine tr_fdiv (by first | decide | assumption) ?_
  | ((with_reducible refine' ⟨_, _, _, _, ?e, ?f, ?g, ?k⟩); (case e => exact rfl); (case f => exact rfl); (case g => exact rfl); dsimp only [List.set])
  | ((with_reducible refine' ⟨_, _, (?e : _ = some (some (Dv.o _ _))), ?k⟩); (case e => exact rfl))
  | ((with_reducible refine' ⟨?e, ?k⟩); (case e => (with_reducible show okSlot _ _ = true); exact rfl); dsimp only [List.set])
  | ((with_reducible refine' ⟨?e, ?k⟩); (case e => (with_reducible show isO _ _ = true); exact rfl))
  | ((with_reducible refine' ⟨?e, ?k⟩); (case e => (with_reducible show List.length _ ≤ sizeLine); exact le_sz rfl))
  | ((with_reducible refine' ⟨?e, ?k⟩); (case e => (with_reducible show noIo _ _ = true); exact rfl))
  | ((with_reducible refine' ⟨okAt ?h ?e, ?k⟩); (case e => exact rfl); (case h => assumption); dsimp only [List.set])
  | ((with_reducible refine' ⟨noIoAt ?h ?e, ?k⟩); (case e => exact rfl); (case h => assumption))
  | ((with_reducible refine' ⟨_, (?e : _ = some (some (Dv.p _))), ?k⟩); (case e => exact rfl))
  | ((with_reducible refine' ⟨?e, ?k⟩); (case e => (with_reducible show isK _ _ = true); exact rfl)))
open TL (tl)
/-- the parts of a text at a sign -/
def spS (c : Nat) (s : Str) : List Str := (TL.spl [c] 0 [] (tl s)).map mkS
theorem map_mkS : ∀ L : List (List Nat), (L.map mkS).map tl = L
  | [] => rfl
  | l :: L => by rw [List.map_cons, List.map_cons, map_mkS L, tl_mkS]
theorem split_eq {c : Nat} {s y : Str} (hy : y = mkS [c]) (hc : c < 256) : Txt.split s y = spS c s := by
  subst hy
  apply TL.map_tl_inj
  rw [TL.split_spl _ _ (by rw [tl_mkS]; simp) (TL.kind_ok (by show (#[c] : Array Nat).all (· < 256) = true; simpa using hc))]
  unfold spS
  rw [map_mkS]
  rfl
theorem spl_mem {c : Nat} : ∀ (l acc : List Nat), ∀ p ∈ TL.spl [c] 0 acc l, p.length ≤ acc.length + l.length ∧ ∀ x ∈ p, x ∈ acc ∨ x ∈ l
  | [], acc, p, h => by
    rw [TL.spl_nil] at h
    rcases List.mem_singleton.mp h with rfl
    exact ⟨by simp, fun x hx => .inl hx⟩
  | d :: r, acc, p, h => by
    cases hp : TL.pre [c] (d :: r) with
    | true =>
      rw [TL.spl_hit hp] at h
      rcases List.mem_cons.mp h with rfl | h
      · exact ⟨by omega, fun x hx => .inl hx⟩
      · obtain ⟨h1, h2⟩ := spl_mem r [] p h
        refine ⟨by rw [List.length_cons]; rw [List.length_nil] at h1; omega, fun x hx => .inr ?_⟩
        rcases h2 x hx with z | z
        · cases z
        · exact List.mem_cons_of_mem _ z
    | false =>
      rw [TL.spl_miss hp] at h
      obtain ⟨h1, h2⟩ := spl_mem r _ p h
      refine ⟨by rw [List.length_append, List.length_singleton] at h1; rw [List.length_cons]; omega, fun x hx => ?_⟩
      rcases h2 x hx with z | z
      · rcases List.mem_append.mp z with z | z
        · exact .inl z
        · exact .inr (by rw [List.mem_singleton.mp z]; exact List.mem_cons_self ..)
      · exact .inr (List.mem_cons_of_mem _ z)
theorem spl_free {c : Nat} : ∀ (l acc : List Nat), c ∉ acc → ∀ p ∈ TL.spl [c] 0 acc l, c ∉ p
  | [], acc, ha, p, h => by
    rw [TL.spl_nil] at h
    rcases List.mem_singleton.mp h with rfl
    exact ha
  | d :: r, acc, ha, p, h => by
    cases hp : TL.pre [c] (d :: r) with
    | true =>
      rw [TL.spl_hit hp] at h
      rcases List.mem_cons.mp h with rfl | h
      · exact ha
      · exact spl_free r [] (by simp) p h
    | false =>
      rw [TL.spl_miss hp] at h
      refine spl_free r _ ?_ p h
      intro z
      rcases List.mem_append.mp z with z | z
      · exact ha z
      · rw [List.mem_singleton.mp z] at hp
        unfold TL.pre at hp
        simp at hp
theorem spl_len {c : Nat} : ∀ (l acc : List Nat), 1 ≤ (TL.spl [c] 0 acc l).length ∧ (TL.spl [c] 0 acc l).length ≤ l.length + 1
  | [], acc => by rw [TL.spl_nil]; simp
  | d :: r, acc => by
    cases hp : TL.pre [c] (d :: r) with
    | true =>
      rw [TL.spl_hit hp]
      have := spl_len r [] (c := c)
      simp only [List.length_cons, List.length_nil] at this ⊢
      exact ⟨by omega, by have := this.2; simp only [Nat.zero_add, Nat.sub_self] at this ⊢; omega⟩
    | false =>
      rw [TL.spl_miss hp]
      have := spl_len r (acc ++ [d]) (c := c)
      rw [List.length_cons]
      omega
theorem spS_ok {c n : Nat} {s : Str} (h : SOk n s) : ∀ p ∈ spS c s, SOk n p := fun p hp => by
  obtain ⟨l, hl, rfl⟩ := List.mem_map.mp hp
  obtain ⟨h1, h2⟩ := spl_mem _ _ l hl
  refine sok_sub h (by have := (okS_iff.mp h).1; rw [List.length_nil] at h1; omega) fun x hx => ?_
  rcases h2 x hx with z | z
  · cases z
  · exact z
theorem spS_len {c n : Nat} {s : Str} (h : SOk n s) : 1 ≤ (spS c s).length ∧ (spS c s).length ≤ n + 1 := by
  unfold spS
  rw [List.length_map]
  have := spl_len (c := c) (tl s) []
  have := (okS_iff.mp h).1
  omega
theorem spS_free {c : Nat} {s : Str} : ∀ p ∈ spS c s, c ∉ tl p := fun p hp => by
  obtain ⟨l, hl, rfl⟩ := List.mem_map.mp hp
  exact spl_free _ _ (by simp) l hl
theorem str_sp : (" " : Str) = mkS [32] := by decide +kernel
theorem str_sl : ("/" : Str) = mkS [47] := by decide +kernel
theorem str_nl : ("\n" : Str) = mkS [10] := by decide +kernel
theorem spl_ok {n c : Nat} {s y : Str} {Q : Prop} (hs : SOk n s) (hn : n ≤ 1000000) (hy : y = mkS [c]) (hc : c < 256) (h : Q) : (y.length == 0) = false ∧ s.length + 2 ≤ sizeLine ∧ Q := by
  refine ⟨by subst hy; rfl, by have := hs.1; show s.length + 2 ≤ 2 ^ 24; omega, h⟩
/-! ### numbers are small -/
theorem fold_lt : ∀ (l : List Nat) (a : Nat), l.all isDg = true → l.foldl (fun acc c => acc * 10 + (c - 48)) a < (a + 1) * 10 ^ l.length
  | [], a, _ => by simp
  | c :: r, a, h => by
    rw [List.all_cons, Bool.and_eq_true] at h
    obtain ⟨h1, h2⟩ := h
    unfold isDg at h1
    rw [Bool.and_eq_true, decide_eq_true_eq, decide_eq_true_eq] at h1
    have z := fold_lt r (a * 10 + (c - 48)) h2
    rw [List.foldl_cons, List.length_cons, Nat.pow_succ]
    refine Nat.lt_of_lt_of_le z ?_
    rw [show (a + 1) * (10 ^ r.length * 10) = ((a + 1) * 10) * 10 ^ r.length by rw [Nat.mul_comm (10 ^ r.length) 10, Nat.mul_assoc]]
    exact Nat.mul_le_mul_right _ (by omega)
theorem numV_lt {l : List Nat} {v : Int} (h : numV l = some v) : 0 ≤ v ∧ v < 10 ^ 40 := by
  unfold numV at h
  split at h
  · rename_i hh
    cases h
    have z := fold_lt l 0 hh.1.2
    have z2 : 10 ^ l.length ≤ 10 ^ 40 := Nat.pow_le_pow_right (by omega) hh.1.1.2
    have z3 : NumText.digitsVal l < (0 + 1) * 10 ^ l.length := z
    rw [Nat.zero_add, Nat.one_mul] at z3
    refine ⟨by omega, ?_⟩
    have : NumText.digitsVal l < 10 ^ 40 := by omega
    omega
  · cases h
theorem intV_lt {l : List Nat} {v : Int} (h : intV l = some v) : -(10 ^ 40) < v ∧ v < 10 ^ 40 := by
  by_cases hm : l.head? = some 45
  · rw [intV_m hm] at h
    obtain ⟨u, h1, h2⟩ := Option.bind_eq_some_iff.mp h
    have := numV_lt h1
    split at h2
    · cases h2
    · cases h2; omega
  · rw [intV_n hm] at h
    have := numV_lt h
    omega
/-! ### fractions -/
def frcV (l : List Nat) : Option (Int × Int) := match TL.spl [47] 0 [] l with
  | [a, b] => (intV a).bind fun t => (numV b).bind fun m => if m = 0 ∨ Nat.gcd t.natAbs m.natAbs ≠ 1 then none else some (t, m)
  | _ => none
def optP : Option (Int × Int) → D
  | none => .non
  | some p => .tup [.int p.1, .int p.2]
theorem optI_none {o : Option Int} (h : o = none) : optI o = .non := by subst h; rfl
theorem two_of {α : Type} {l : List α} (h : l.length = 2) : ∃ a b, l = [a, b] := by
  match l, h with
  | [a, b], _ => exact ⟨a, b, rfl⟩
theorem frcV_ne {s : Str} (h : (spS 47 s).length ≠ 2) : frcV (tl s) = none := by
  unfold spS at h
  rw [List.length_map] at h
  unfold frcV
  split
  · rename_i e; rw [e] at h; exact absurd rfl h
  · rfl
theorem frcV_two {s p q : Str} (h : spS 47 s = [p, q]) : frcV (tl s) = (intV (tl p)).bind fun t => (numV (tl q)).bind fun m => if m = 0 ∨ Nat.gcd t.natAbs m.natAbs ≠ 1 then none else some (t, m) := by
  have e : TL.spl [47] 0 [] (tl s) = [tl p, tl q] := by
    have := map_mkS (TL.spl [47] 0 [] (tl s))
    unfold spS at h
    rw [h] at this
    exact this.symm
  unfold frcV
  rw [e]
theorem fr_neg {m : Int} {g : Nat} (h5 : ¬ m = 0) (h7 : (!decide ((g : Int) = 1)) = false) : ¬ (m = 0 ∨ g ≠ 1) := by
  have h8 : (g : Int) = 1 := by simpa using h7
  rintro (z | z)
  · exact h5 z
  · exact z (by omega)
theorem fraction_in_rs {s : Str} {n : Nat} {P : Dv → List Dv → Prop} (hs : SOk n s) (hn : n ≤ 1000000) (h : P (.p (optP (frcV (tl s)))) [.p (.str s)]) : RS (m_fraction_in [.p (.str s)]) P := by
  refine rs_fn rfl ?_
  show Tr (b_fraction_in [some (.p (.str s)), none, none, none]) _
  unfold b_fraction_in
  repeat fail
  refine spl_ok hs hn str_sl (by decide) ?_
  rw [split_eq str_sl (by decide)]
  repeat fail
  refine tr_ite (fun h1 => ?_) (fun h1 => ?_)
  · have h2 : (!decide ((((spS 47 s).map D.str).length : Int) = 2)) = true := h1
    rw [List.length_map] at h2
    rw [frcV_ne (by intro e; rw [e] at h2; simp at h2)] at h
    repeat fail
    exact h
  have h2 : (!decide ((((spS 47 s).map D.str).length : Int) = 2)) = false := h1
  rw [List.length_map] at h2
  have z2 : ((spS 47 s).length : Int) = 2 := by simpa using h2
  obtain ⟨p, q, e⟩ := two_of (l := spS 47 s) (by omega)
  have hp : SOk n p := spS_ok hs p (by rw [e]; simp)
  have hq : SOk n q := spS_ok hs q (by rw [e]; simp)
  rw [frcV_two e] at h
  rw [e]
  dsimp only [List.map]
  repeat fail
  refine tr_call rfl rfl rfl (integer_in_rs hp hn ?_)
  dsimp only [updP, refsOf]
  repeat fail
  refine tr_call rfl rfl rfl (number_in_rs hq hn ?_)
  dsimp only [updP, refsOf]
  repeat fail
  cases e1 : intV (tl p) with
  | none =>
    rw [e1] at h
    unfold optI
    repeat fail
    exact h
  | some t =>
    cases e2 : numV (tl q) with
    | none =>
      rw [e1, e2] at h
      unfold optI
      repeat fail
      exact h
    | some m =>
      rw [e1, e2] at h
      have h : P (.p (optP (if m = 0 ∨ Nat.gcd t.natAbs m.natAbs ≠ 1 then none else some (t, m)))) [.p (.str s)] := h
      unfold optI
      repeat fail
      refine tr_ite (fun h4 => ?_) (fun h4 => ?_)
      · have h5 : m = 0 := of_decide_eq_true h4
        rw [if_pos (.inl h5)] at h
        repeat fail
        exact h
      · have h5 : ¬ m = 0 := of_decide_eq_false h4
        repeat fail
        refine tr_ite (fun h6 => ?_) (fun h6 => ?_)
        · have h7 : (!decide (((Nat.gcd t.natAbs m.natAbs : Nat) : Int) = 1)) = true := h6
          rw [if_pos (.inr (by intro z; rw [z] at h7; simp at h7))] at h
          repeat fail
          exact h
        · have h7 : (!decide (((Nat.gcd t.natAbs m.natAbs : Nat) : Int) = 1)) = false := h6
          rw [if_neg (fr_neg h5 h7)] at h
          repeat fail
          exact h
theorem own_fraction_rs {s : Str} {n : Nat} {P : Dv → List Dv → Prop} (hs : SOk n s) (hn : n ≤ 1000000) (h : P (.p (optP (frcV (tl s)))) [.p (.str s)]) : RS (m__law_own_fraction [.p (.str s)]) P := by
  refine rs_fn rfl ?_
  show Tr (b__law_own_fraction [some (.p (.str s)), none, none, none]) _
  unfold b__law_own_fraction
  repeat fail
  refine spl_ok hs hn str_sl (by decide) ?_
  rw [split_eq str_sl (by decide)]
  repeat fail
  refine tr_ite (fun h1 => ?_) (fun h1 => ?_)
  · have h2 : (!decide ((((spS 47 s).map D.str).length : Int) = 2)) = true := h1
    rw [List.length_map] at h2
    rw [frcV_ne (by intro e; rw [e] at h2; simp at h2)] at h
    repeat fail
    exact h
  have h2 : (!decide ((((spS 47 s).map D.str).length : Int) = 2)) = false := h1
  rw [List.length_map] at h2
  have z2 : ((spS 47 s).length : Int) = 2 := by simpa using h2
  obtain ⟨p, q, e⟩ := two_of (l := spS 47 s) (by omega)
  have hp : SOk n p := spS_ok hs p (by rw [e]; simp)
  have hq : SOk n q := spS_ok hs q (by rw [e]; simp)
  rw [frcV_two e] at h
  rw [e]
  dsimp only [List.map]
  repeat fail
  refine tr_call rfl rfl rfl (own_integer_rs hp hn ?_)
  dsimp only [updP, refsOf]
  repeat fail
  refine tr_call rfl rfl rfl (own_number_rs hq hn ?_)
  dsimp only [updP, refsOf]
  repeat fail
  cases e1 : intV (tl p) with
  | none =>
    rw [e1] at h
    unfold optI
    repeat fail
    exact h
  | some t =>
    cases e2 : numV (tl q) with
    | none =>
      rw [e1, e2] at h
      unfold optI
      repeat fail
      exact h
    | some m =>
      rw [e1, e2] at h
      have h : P (.p (optP (if m = 0 ∨ Nat.gcd t.natAbs m.natAbs ≠ 1 then none else some (t, m)))) [.p (.str s)] := h
      have hm := numV_lt e2
      unfold optI
      repeat fail
      refine tr_ite (fun h4 => ?_) (fun h4 => ?_)
      · have h5 : m = 0 := of_decide_eq_true h4
        rw [if_pos (.inl h5)] at h
        repeat fail
        exact h
      · have h5 : ¬ m = 0 := of_decide_eq_false h4
        repeat fail
        refine tr_gcd (by split <;> omega) hm.1 (by omega) ?_
        have e3 : Int.gcd (if t < 0 then -t else t) m = Nat.gcd t.natAbs m.natAbs := by
          unfold Int.gcd
          split
          · rw [Int.natAbs_neg]
          · rfl
        rw [e3]
        repeat fail
        refine tr_ite (fun h6 => ?_) (fun h6 => ?_)
        · have h7 : (!decide (((Nat.gcd t.natAbs m.natAbs : Nat) : Int) = 1)) = true := h6
          rw [if_pos (.inr (by intro z; rw [z] at h7; simp at h7))] at h
          repeat fail
          exact h
        · have h7 : (!decide (((Nat.gcd t.natAbs m.natAbs : Nat) : Int) = 1)) = false := h6
          rw [if_neg (fr_neg h5 h7)] at h
          repeat fail
          exact h

end Lk
end

section
set_option Elab.async false
set_option linter.all false
set_option maxRecDepth 100000
set_option autoImplicit false
set_option maxHeartbeats 1000000
namespace Lk
open Fl PySem
local macro_rules | `(tactic| fail) => `(tactic| first
  | with_reducible first
    | refine tr_seqS ?_ | refine tr_op2 ?_ | refine tr_pure ?_ | refine tr_setM ?_ | refine tr_ifM ?_ | refine tr_boolM ?_ | refine tr_callB ?_ | refine tr_consM ?_ | refine tr_setIxM ?_ | refine tr_andM ?_ | refine tr_orM ?_ | refine tr_notM ?_ | refine tr_retM ?_
    | refine tr_frzM ?_ | refine tr_callM ?_ | refine tr_consR ?_ | refine tr_argV ?_ | refine tr_forM ?_ | refine tr_itM ?_ | refine tr_setO ?_ | refine tr_lstM ?_ | refine tr_tupM ?_ | refine tr_bind ?_
    | refine tr_splS ?_ | refine tr_setKM ?_ | refine tr_inKM ?_ | refine tr_getM ?_ | refine tr_catM ?_ | refine tr_joinM ?_ | refine tr_inQM ?_ | refine tr_landV ?_ | refine tr_landM ?_ | refine tr_lorM ?_ | refine tr_bM ?_ | refine tr_ownC ?_ | refine tr_retO ?_ | refine tr_exprM ?_ | refine tr_seqM ?_ | refine tr_qM ?_ | refine tr_qN ?_ | refine tr_isiM ?_ | refine tr_negM ?_ | refine tr_bitsM ?_ | refine tr_partM ?_ | refine tr_slM ?_ | refine tr_chainL ?_ | refine tr_iteT ?_ | refine tr_iteF ?_ | refine tr_iteNF ?_ | refine tr_iteNT ?_ | refine tr_parM ?_
    | refine tr_consN ?_ | refine tr_newM ?_ | refine tr_callN ?_ | refine tr_asgM ?_ | refine tr_lcM ?_
  | ((with_reducible refine' tr_var ?e ?k); (case e => exact rfl))
  | with_reducible refine tr_chainM ?_
  | ((with_reducible refine' tr_ixOM ?e ?k); (case e => exact rfl))
  | ((with_reducible refine' tr_ixKM ?e ?k); (case e => exact rfl))
  | ((with_reducible refine' tr_frzSk ?e ?k); (case e => exact rfl); dsimp only [List.set])
  | ((with_reducible refine' tr_frzS ?e ?k); (case e => exact rfl); dsimp only [List.set])
  | ((with_reducible refine' tr_retVk ?e ?k); (case e => exact rfl))
  | ((with_reducible refine' tr_argR ?e ?f ?k); (case e => exact rfl); (case f => exact rfl))
  | ((with_reducible refine' tr_argB ?e ?f ?k); (case e => exact rfl); (case f => exact rfl))
  | ((with_reducible refine' tr_appM ?e ?k); (case e => exact rfl))
  | ((with_reducible refine' tr_retV ?e ?k); (case e => exact rfl))
  | ((with_reducible refine' tr_ownM ?e ?k); (case e => exact rfl))
  | ((with_reducible refine' tr_opt ?e ?k); (case e => exact rfl))
  | with_reducible refine tr_mul (by first | exact .inl (.inr ⟨by decide, by decide⟩) | exact .inl (.inl ⟨by omega, by omega⟩)) ?_
  | with_reducible refine tr_mod (by first | decide | omega) ?_
  | with_reducible refine tr_fdiv (by first | decide | assumption) ?_
  | ((with_reducible refine' ⟨_, _, _, _, ?e, ?f, ?g, ?k⟩); (case e => exact rfl); (case f => exact rfl); (case g => exact rfl); dsimp only [List.set])
  | ((with_reducible refine' ⟨_, _, (?e : _ = some (some (Dv.o _ _))), ?k⟩); (case e => exact rfl))
  | ((with_reducible refine' ⟨?e, ?k⟩); (case e => (with_reducible show okSlot _ _ = true); exact rfl); dsimp only [List.set])
  | ((with_reducible refine' ⟨?e, ?k⟩); (case e => (with_reducible show isO _ _ = true); exact rfl))
  | ((with_reducible refine' ⟨?e, ?k⟩); (case e => (with_reducible show List.length _ ≤ sizeLine); exact le_sz rfl))
  | ((with_reducible refine' ⟨?e, ?k⟩); (case e => (with_reducible show noIo _ _ = true); exact rfl))
  | ((with_reducible refine' ⟨okAt ?h ?e, ?k⟩); (case e => exact rfl); (case h => assumption); dsimp only [List.set])
  | ((with_reducible refine' ⟨noIoAt ?h ?e, ?k⟩); (case e => exact rfl); (case h => assumption))
  | ((with_reducible refine' ⟨_, (?e : _ = some (some (Dv.p _))), ?k⟩); (case e => exact rfl))
  | ((with_reducible refine' ⟨?e, ?k⟩); (case e => (with_reducible show isK _ _ = true); exact rfl)))
open TL (tl)
theorem eqv_non {n : Nat} : ∀ d : D, dat n d = true → PyData.eqv d.py D.non.py = isNB d := fun d h => by
  cases d with
  | scr _ => cases n <;> (unfold dat at h; cases h)
  | fn _ => cases n <;> (unfold dat at h; cases h)
  | dct _ => cases n <;> (unfold dat at h; cases h)
  | _ => simp [D.py, PyData.eqv, isNB]
theorem any_non {n : Nat} : ∀ xs : List D, dats n xs = true → (xs.any fun z => PyData.eqv z.py D.non.py) = xs.any isNB
  | [], _ => rfl
  | d :: r, h => by
    unfold dats at h
    obtain ⟨h1, h2⟩ := Bool.and_eq_true_iff.mp h
    rw [List.any_cons, List.any_cons, eqv_non d h1, any_non r h2]
theorem inF_nonL {xs : List D} (h : dats 2 xs = true) : inF .non (.lst xs) = some (.bl (xs.any isNB)) := by
  have h1 : chk .non = true := dat_chk (n := 1) rfl (by omega)
  have h2 : chk (.lst xs) = true := dat_chk (n := 3) (by unfold dat; exact h) (by omega)
  show ((if (chk .non && chk (.lst xs)) = true then some (xs.any fun z => PyData.eqv z.py D.non.py) else none)).map D.bl = _
  rw [h1, h2, any_non xs h]; rfl
theorem inF_nonT {xs : List D} (h : dats 2 xs = true) : inF .non (.tup xs) = some (.bl (xs.any isNB)) := by
  have h1 : chk .non = true := dat_chk (n := 1) rfl (by omega)
  have h2 : chk (.tup xs) = true := dat_chk (n := 3) (by unfold dat; exact h) (by omega)
  show ((if (chk .non && chk (.tup xs)) = true then some (xs.any fun z => PyData.eqv z.py D.non.py) else none)).map D.bl = _
  rw [h1, h2, any_non xs h]; rfl
/-! ### slices of lists -/
theorem cut_drop (xs : List D) (k : Nat) : cutD xs (some (k : Int)) none = xs.drop k := by
  unfold cutD
  rw [HT.sIx_nat, HT.sIx_none, List.take_of_length_le (by rw [List.length_drop]; omega)]
  by_cases h : k ≤ xs.length
  · rw [Nat.min_eq_left h]
  · rw [Nat.min_eq_right (by omega), List.drop_eq_nil_of_le (Nat.le_refl _), List.drop_eq_nil_of_le (by omega)]
theorem cut_take (xs : List D) (k : Nat) : cutD xs none (some (k : Int)) = xs.take k := by
  unfold cutD
  rw [HT.sIx_nat, HT.sIx_none, List.drop_zero, Nat.sub_zero, List.take_eq_take_iff]
  omega
theorem cutD1 (x : D) (xs : List D) : cutD (x :: xs) (some 1) none = xs := cut_drop (x :: xs) 1
/-! ### the words of a line -/
def RdOk (g : List Dv → R) (V : Str → D) (ws : List Str) : Prop := ∀ x ∈ ws, ∀ P : Dv → List Dv → Prop, P (.p (V x)) [.p (.str x)] → RS (g [.p (.str x)]) P
/-- words read by a function, in a comprehension -/
theorem tr_words {g : List Dv → R} {V : Str → D} {ws : List Str} (hg : RdOk g V ws) (hl : ws.length ≤ 1000000) {P : List D → Fl.Env → Prop} {me : M D} {k : Nat} {pre post : Fl.Env} (hk : pre.length = k)
    (hme : ∀ x ∈ ws, ∀ Q : D → Fl.Env → Prop, Q (V x) (pre ++ [some (Dv.p (D.str x))] ++ post) → Tr (me (pre ++ [some (Dv.p (D.str x))] ++ post)) Q)
    (h : P (ws.map V) (pre ++ [none] ++ post)) : Tr (lcL [k] (tgN k) (pureM true) me (ws.map D.str) [] (pre ++ [none] ++ post)) P := by
  subst hk
  have hset : ∀ (x y : Option Dv), (pre ++ [x] ++ post).set pre.length y = pre ++ [y] ++ post := fun x y => by simp
  have hget : ∀ x : Option Dv, (pre ++ [x] ++ post)[pre.length]? = some x := fun x => by simp
  refine tr_lcS (σ := Unit) (fun _ => pre ++ [none] ++ post) (fun q acc _ => ∃ p, ws = p ++ q ∧ acc = p.map V) ws () _ ⟨[], rfl, rfl⟩ rfl ?_ ?_
  · rintro x q acc _ ⟨p, e, rfl⟩
    have hx : x ∈ ws := by rw [e]; simp
    refine ⟨_, tgN_ok (okAt .n (hget none)), ?_⟩
    rw [hset]
    refine tr_pure ?_
    rw [if_pos rfl]
    refine hme x hx _ ?_
    refine ⟨?_, noIoAt (x := some (.p (.str x))) .p (hget _), (), ?_, p ++ [x], ?_, ?_⟩
    · rw [List.length_map]
      have := congrArg List.length e
      rw [List.length_append, List.length_cons] at this
      show _ < 2 ^ 24
      omega
    · show (pre ++ [some (Dv.p (D.str x))] ++ post).set pre.length none = _
      rw [hset]
    · rw [e, List.append_assoc]; rfl
    · rw [List.map_append]; rfl
  · rintro acc _ ⟨p, e, rfl⟩
    rw [List.append_nil] at e
    subst e
    exact h
def wordsD (V : Str → D) (ws : List Str) : D := if (ws.map V).any isNB = true then .non else .tup (ws.map V)
theorem read_words_rs {f : Str} {g : List Dv → R} {V : Str → D} {ws : List Str} {P : Dv → List Dv → Prop} (hT : [(("integer_in" : Str), m_integer_in), ("number_in", m_number_in), ("fraction_in", m_fraction_in)].lookup f = some g)
    (hg : RdOk g V ws) (hl : ws.length ≤ 1000000) (hv : dats 2 (ws.map V) = true) (h : P (.p (wordsD V ws)) [.p (.lst (ws.map D.str)), .p (.fn f)]) : RS (m__read_words [.p (.lst (ws.map D.str)), .p (.fn f)]) P := by
  refine rs_fn rfl ?_
  show Tr (b__read_words [some (.p (.lst (ws.map D.str))), some (.p (.fn f)), none, none]) _
  unfold b__read_words
  repeat fail
  refine tr_words (pre := [some (.p (.lst (ws.map D.str))), some (.p (.fn f)), none]) (post := []) hg hl rfl ?_ ?_
  · intro x hx Q hQ
    refine tr_frzM (tr_callLM (f := f) rfl hT ?_)
    repeat fail
    refine tr_call rfl rfl rfl (hg x hx _ ?_)
    dsimp only [updP, refsOf]
    repeat fail
    exact hQ
  repeat fail
  refine tr_opt (inF_nonL hv) ?_
  unfold wordsD at h
  repeat fail
  refine tr_ite (fun h1 => ?_) (fun h1 => ?_)
  · rw [if_pos h1] at h
    repeat fail
    exact h
  · rw [if_neg (by rw [h1]; simp)] at h
    repeat fail
    exact h
/-! ### lots -/
def nV (x : Str) : D := optI (numV (tl x))
def zV (x : Str) : D := optI (intV (tl x))
def fV (x : Str) : D := optP (frcV (tl x))
theorem dat_nV (x : Str) : dat 2 (nV x) = true := by unfold nV; cases numV (tl x) <;> rfl
theorem dat_zV (x : Str) : dat 2 (zV x) = true := by unfold zV; cases intV (tl x) <;> rfl
theorem dat_fV (x : Str) : dat 2 (fV x) = true := by unfold fV; cases frcV (tl x) <;> rfl
theorem dats_V {V : Str → D} (h : ∀ x, dat 2 (V x) = true) (ws : List Str) : dats 2 (ws.map V) = true := by
  rw [dats_all, List.all_eq_true]
  intro d hd
  obtain ⟨x, _, rfl⟩ := List.mem_map.mp hd
  exact h x
theorem nV_ints : ∀ ws : List Str, (ws.map nV).any isNB = false → ∃ ns : List Int, ws.map nV = ns.map D.int
  | [], _ => ⟨[], rfl⟩
  | w :: ws, h => by
    rw [List.map_cons, List.any_cons, Bool.or_eq_false_iff] at h
    obtain ⟨ns, e⟩ := nV_ints ws h.2
    have h1 := h.1
    unfold nV at h1
    cases e2 : numV (tl w) with
    | none => rw [e2] at h1; cases h1
    | some v => exact ⟨v :: ns, by rw [List.map_cons, List.map_cons, e]; unfold nV; rw [e2]; rfl⟩
def lotD (w : Str) (r : List Str) : D := if w = "lot" ∧ r ≠ [] ∧ (r.map nV).any isNB = false ∧ maxL ((intsOf (r.map nV)).getD []) ≠ 0 then .tup (r.map nV) else .non
theorem mm_nV {r : List Str} {ns : List Int} (e : r.map nV = ns.map D.int) (hr : r ≠ []) (k : SK) : mmQ maxL k (r.map nV) = some (.int (maxL ((intsOf (r.map nV)).getD []))) := by
  rw [e, intsOf_ints, mm_ints]
  · rfl
  · rintro rfl
    cases r with
    | nil => exact hr rfl
    | cons _ _ => cases e
theorem spS_cons {c : Nat} {s : Str} : ∃ w r, spS c s = w :: r := by
  have h := spl_len (c := c) (tl s) []
  unfold spS
  cases e : TL.spl [c] 0 [] (tl s) with
  | nil => rw [e] at h; simp at h
  | cons w r => exact ⟨_, _, rfl⟩
theorem read_lot_rs {s w : Str} {r : List Str} {n : Nat} {P : Dv → List Dv → Prop} (hs : SOk n s) (hn : n ≤ 1000) (e : spS 32 s = w :: r) (h : P (.p (lotD w r)) [.p (.str s)]) : RS (m_read_lot [.p (.str s)]) P := by
  have hr : RdOk m_number_in nV r := fun x hx P h => number_in_rs (spS_ok hs x (by rw [e]; exact List.mem_cons_of_mem _ hx)) (by omega) h
  have hl : r.length ≤ 1000 := by have := (spS_len hs (c := 32)).2; rw [e, List.length_cons] at this; omega
  unfold lotD at h
  refine rs_fn rfl ?_
  show Tr (b_read_lot [some (.p (.str s)), none, none]) _
  unfold b_read_lot
  repeat fail
  refine spl_ok hs (by omega) str_sp (by decide) ?_
  rw [split_eq str_sp (by decide), e, List.map_cons]
  repeat fail
  refine tr_opt (ix_lst (i := 0) rfl) ?_
  repeat fail
  refine tr_ite (fun h1 => ?_) (fun h1 => ?_)
  · have h2 : (!decide (w = "lot")) = true := h1
    rw [if_neg (by rintro ⟨z, _⟩; rw [decide_eq_true z] at h2; cases h2)] at h
    repeat fail
    exact h
  have h2 : (!decide (w = "lot")) = false := h1
  have h2 : w = "lot" := by simpa using h2
  repeat fail
  refine tr_ite (fun h3 => ?_) (fun h3 => ?_)
  · have h4 : decide ((((D.str w :: r.map D.str).length : Nat) : Int) < 2) = true := h3
    rw [List.length_cons, List.length_map] at h4
    have h5 := of_decide_eq_true h4
    rw [if_neg (by rintro ⟨_, z, _⟩; exact z (List.eq_nil_of_length_eq_zero (by omega)))] at h
    repeat fail
    exact h
  have h4 : decide ((((D.str w :: r.map D.str).length : Nat) : Int) < 2) = false := h3
  rw [List.length_cons, List.length_map] at h4
  have h5 := of_decide_eq_false h4
  have hr0 : r ≠ [] := by rintro rfl; simp at h5
  repeat fail
  rw [cutD1]
  refine tr_call rfl rfl rfl (read_words_rs rfl hr (by omega) (dats_V dat_nV r) ?_)
  dsimp only [updP, refsOf]
  unfold wordsD
  cases h6 : (r.map nV).any isNB with
  | true =>
    rw [if_neg (by rintro ⟨_, _, z, _⟩; rw [z] at h6; cases h6)] at h
    rw [if_pos rfl]
    repeat fail
    exact h
  | false =>
    obtain ⟨ns, e3⟩ := nV_ints r h6
    rw [if_neg (by simp)]
    repeat fail
    refine tr_opt (mm_nV e3 hr0 _) ?_
    repeat fail
    refine tr_ite (fun h7 => ?_) (fun h7 => ?_)
    · have h8 := of_decide_eq_true h7
      rw [if_neg (by rintro ⟨_, _, _, z⟩; exact z h8)] at h
      repeat fail
      exact h
    · have h8 := of_decide_eq_false h7
      rw [if_pos ⟨h2, hr0, h6, h8⟩] at h
      repeat fail
      exact h
theorem own_lot_rs {s w : Str} {r : List Str} {n : Nat} {P : Dv → List Dv → Prop} (hs : SOk n s) (hn : n ≤ 1000) (e : spS 32 s = w :: r) (h : P (.p (lotD w r)) [.p (.str s)]) : RS (m__law_own_lot [.p (.str s)]) P := by
  have hr : RdOk m__law_own_number nV r := fun x hx P h => own_number_rs (spS_ok hs x (by rw [e]; exact List.mem_cons_of_mem _ hx)) (by omega) h
  have hl : r.length ≤ 1000 := by have := (spS_len hs (c := 32)).2; rw [e, List.length_cons] at this; omega
  unfold lotD at h
  refine rs_fn rfl ?_
  show Tr (b__law_own_lot [some (.p (.str s)), none, none, none]) _
  unfold b__law_own_lot
  repeat fail
  refine spl_ok hs (by omega) str_sp (by decide) ?_
  rw [split_eq str_sp (by decide), e, List.map_cons]
  repeat fail
  rw [cutD1]
  refine tr_words (pre := [some (.p (.str s)), some (.p (.lst (.str w :: r.map D.str))), none]) (post := []) hr (by omega) rfl ?_ ?_
  · intro x hx Q hQ
    repeat fail
    refine tr_call rfl rfl rfl (hr x hx _ ?_)
    dsimp only [updP, refsOf]
    repeat fail
    exact hQ
  repeat fail
  refine tr_opt (ix_lst (i := 0) rfl) ?_
  repeat fail
  refine tr_ite (fun h1 => ?_) (fun h1 => ?_)
  · have h2 : (!decide (w = "lot")) = true := h1
    rw [if_neg (by rintro ⟨z, _⟩; rw [decide_eq_true z] at h2; cases h2)] at h
    repeat fail
    exact h
  have h2 : (!decide (w = "lot")) = false := h1
  have h2 : w = "lot" := by simpa using h2
  repeat fail
  refine tr_ite (fun h3 => ?_) (fun h3 => ?_)
  · have h4 : decide ((((r.map nV).length : Nat) : Int) = 0) = true := h3
    rw [List.length_map] at h4
    have h5 := of_decide_eq_true h4
    rw [if_neg (by rintro ⟨_, z, _⟩; exact z (List.eq_nil_of_length_eq_zero (by omega)))] at h
    repeat fail
    exact h
  have h4 : decide ((((r.map nV).length : Nat) : Int) = 0) = false := h3
  rw [List.length_map] at h4
  have h5 := of_decide_eq_false h4
  have hr0 : r ≠ [] := by rintro rfl; simp at h5
  repeat fail
  refine tr_opt (inF_nonT (dats_V dat_nV r)) ?_
  repeat fail
  refine tr_ite (fun h6 => ?_) (fun h6 => ?_)
  · rw [if_neg (by rintro ⟨_, _, z, _⟩; rw [z] at h6; cases h6)] at h
    repeat fail
    exact h
  obtain ⟨ns, e3⟩ := nV_ints r h6
  repeat fail
  refine tr_opt (mm_nV e3 hr0 _) ?_
  repeat fail
  refine tr_ite (fun h7 => ?_) (fun h7 => ?_)
  · have h8 := of_decide_eq_true h7
    rw [if_neg (by rintro ⟨_, _, _, z⟩; exact z h8)] at h
    repeat fail
    exact h
  · have h8 := of_decide_eq_false h7
    rw [if_pos ⟨h2, hr0, h6, h8⟩] at h
    repeat fail
    exact h

end Lk
end

section
set_option Elab.async false
set_option linter.all false
set_option maxRecDepth 100000
set_option autoImplicit false
set_option maxHeartbeats 1000000
namespace Lk
open Fl PySem
local macro_rules | `(tactic| fail) => `(tactic| first
  | with_reducible first
    | refine tr_seqS ?_ | refine tr_op2 ?_ | refine tr_pure ?_ | refine tr_setM ?_ | refine tr_ifM ?_ | refine tr_boolM ?_ | refine tr_callB ?_ | refine tr_consM ?_ | refine tr_setIxM ?_ | refine tr_andM ?_ | refine tr_orM ?_ | refine tr_notM ?_ | refine tr_retM ?_
    | refine tr_frzM ?_ | refine tr_callM ?_ | refine tr_consR ?_ | refine tr_argV ?_ | refine tr_forM ?_ | refine tr_itM ?_ | refine tr_setO ?_ | refine tr_lstM ?_ | refine tr_tupM ?_ | refine tr_bind ?_
    | refine tr_splS ?_ | refine tr_setKM ?_ | refine tr_inKM ?_ | refine tr_getM ?_ | refine tr_catM ?_ | refine tr_joinM ?_ | refine tr_inQM ?_ | refine tr_landV ?_ | refine tr_landM ?_ | refine tr_lorM ?_ | refine tr_bM ?_ | refine tr_ownC ?_ | refine tr_retO ?_ | refine tr_exprM ?_ | refine tr_seqM ?_ | refine tr_qM ?_ | refine tr_qN ?_ | refine tr_isiM ?_ | refine tr_negM ?_ | refine tr_bitsM ?_ | refine tr_partM ?_ | refine tr_slM ?_ | refine tr_chainL ?_ | refine tr_iteT ?_ | refine tr_iteF ?_ | refine tr_iteNF ?_ | refine tr_iteNT ?_ | refine tr_parM ?_
    | refine tr_consN ?_ | refine tr_newM ?_ | refine tr_callN ?_ | refine tr_asgM ?_ | refine tr_lcM ?_
  | ((with_reducible refine' tr_var ?e ?k); (case e => exact rfl))
  | with_reducible refine tr_chainM ?_
  | ((with_reducible refine' tr_ixOM ?e ?k); (case e => exact rfl))
  | ((with_reducible refine' tr_ixKM ?e ?k); (case e => exact rfl))
  | ((with_reducible refine' tr_frzSk ?e ?k); (case e => exact rfl); dsimp only [List.set])
  | ((with_reducible refine' tr_frzS ?e ?k); (case e => exact rfl); dsimp only [List.set])
  | ((with_reducible refine' tr_retVk ?e ?k); (case e => exact rfl))
  | ((with_reducible refine' tr_argR ?e ?f ?k); (case e => exact rfl); (case f => exact rfl))
  | ((with_reducible refine' tr_argB ?e ?f ?k); (case e => exact rfl); (case f => exact rfl))
  | ((with_reducible refine' tr_appM ?e ?k); (case e => exact rfl))
  | ((with_reducible refine' tr_retV ?e ?k); (case e => exact rfl))
  | ((with_reducible refine' tr_ownM ?e ?k); (case e => exact rfl))
  | ((with_reducible refine' tr_opt ?e ?k); (case e => exact rfl))
  | with_reducible refine tr_mul (by first | exact .inl (.inr ⟨by decide, by decide⟩) | exact .inl (.inl ⟨by omega, by omega⟩)) ?_
  | with_reducible refine tr_mod (by first | decide | omega) ?_
  | with_reducible refine tr_fdiv (by first | decide | assumption) ?_
  | ((with_reducible refine' ⟨_, _, _, _, ?e, ?f, ?g, ?k⟩); (case e => exact rfl); (case f => exact rfl); (case g => exact rfl); dsimp only [List.set])
  | ((with_reducible refine' ⟨_, _, (?e : _ = some (some (Dv.o _ _))), ?k⟩); (case e => exact rfl))
  | ((with_reducible refine' ⟨?e, ?k⟩); (case e => (with_reducible show okSlot _ _ = true); exact rfl); dsimp only [List.set])
  | ((with_reducible refine' ⟨?e, ?k⟩); (case e => (with_reducible show isO _ _ = true); exact rfl))
  | ((with_reducible refine' ⟨?e, ?k⟩); (case e => (with_reducible show List.length _ ≤ sizeLine); exact le_sz rfl))
  | ((with_reducible refine' ⟨?e, ?k⟩); (case e => (with_reducible show noIo _ _ = true); exact rfl))
  | ((with_reducible refine' ⟨okAt ?h ?e, ?k⟩); (case e => exact rfl); (case h => assumption); dsimp only [List.set])
  | ((with_reducible refine' ⟨noIoAt ?h ?e, ?k⟩); (case e => exact rfl); (case h => assumption))
  | ((with_reducible refine' ⟨_, (?e : _ = some (some (Dv.p _))), ?k⟩); (case e => exact rfl))
  | ((with_reducible refine' ⟨?e, ?k⟩); (case e => (with_reducible show isK _ _ = true); exact rfl)))
open TL (tl)
def partsD (word w : Str) (r : List Str) : D := if w = word ∧ (r.map fV).any isNB = false then .tup (r.map fV) else .non
theorem read_parts_rs {s w word : Str} {r : List Str} {n : Nat} {P : Dv → List Dv → Prop} (hs : SOk n s) (hn : n ≤ 1000) (e : spS 32 s = w :: r) (h : P (.p (partsD word w r)) [.p (.str word), .p (.str s)]) : RS (m_read_parts [.p (.str word), .p (.str s)]) P := by
  have hr : RdOk m_fraction_in fV r := fun x hx P h => fraction_in_rs (spS_ok hs x (by rw [e]; exact List.mem_cons_of_mem _ hx)) (by omega) h
  have hl : r.length ≤ 1000 := by have := (spS_len hs (c := 32)).2; rw [e, List.length_cons] at this; omega
  unfold partsD at h
  refine rs_fn rfl ?_
  show Tr (b_read_parts [some (.p (.str word)), some (.p (.str s)), none]) _
  unfold b_read_parts
  repeat fail
  refine spl_ok hs (by omega) str_sp (by decide) ?_
  rw [split_eq str_sp (by decide), e, List.map_cons]
  repeat fail
  refine tr_opt (ix_lst (i := 0) rfl) ?_
  repeat fail
  refine tr_ite (fun h1 => ?_) (fun h1 => ?_)
  · have h2 : (!decide (w = word)) = true := h1
    rw [if_neg (by rintro ⟨z, _⟩; rw [decide_eq_true z] at h2; cases h2)] at h
    repeat fail
    exact h
  have h2 : (!decide (w = word)) = false := h1
  have h2 : w = word := by simpa using h2
  repeat fail
  rw [cutD1]
  refine tr_call rfl rfl rfl (read_words_rs rfl hr (by omega) (dats_V dat_fV r) ?_)
  dsimp only [updP, refsOf]
  unfold wordsD
  repeat fail
  cases h6 : (r.map fV).any isNB with
  | true =>
    rw [if_neg (by rintro ⟨_, z⟩; rw [z] at h6; cases h6)] at h
    rw [if_pos rfl]
    exact h
  | false =>
    rw [if_pos ⟨h2, h6⟩] at h
    rw [if_neg (by simp)]
    exact h
theorem own_parts_rs {s w word : Str} {r : List Str} {n : Nat} {P : Dv → List Dv → Prop} (hs : SOk n s) (hn : n ≤ 1000) (e : spS 32 s = w :: r) (h : P (.p (partsD word w r)) [.p (.str word), .p (.str s)]) : RS (m__law_own_parts [.p (.str word), .p (.str s)]) P := by
  have hr : RdOk m__law_own_fraction fV r := fun x hx P h => own_fraction_rs (spS_ok hs x (by rw [e]; exact List.mem_cons_of_mem _ hx)) (by omega) h
  have hl : r.length ≤ 1000 := by have := (spS_len hs (c := 32)).2; rw [e, List.length_cons] at this; omega
  unfold partsD at h
  refine rs_fn rfl ?_
  show Tr (b__law_own_parts [some (.p (.str word)), some (.p (.str s)), none, none, none]) _
  unfold b__law_own_parts
  repeat fail
  refine spl_ok hs (by omega) str_sp (by decide) ?_
  rw [split_eq str_sp (by decide), e, List.map_cons]
  repeat fail
  rw [cutD1]
  refine tr_words (pre := [some (.p (.str word)), some (.p (.str s)), some (.p (.lst (.str w :: r.map D.str))), none]) (post := []) hr (by omega) rfl ?_ ?_
  · intro x hx Q hQ
    repeat fail
    refine tr_call rfl rfl rfl (hr x hx _ ?_)
    dsimp only [updP, refsOf]
    repeat fail
    exact hQ
  repeat fail
  refine tr_opt (ix_lst (i := 0) rfl) ?_
  repeat fail
  refine tr_ite (fun h1 => ?_) (fun h1 => ?_)
  · have h2 : (!decide (w = word)) = true := h1
    rw [if_neg (by rintro ⟨z, _⟩; rw [decide_eq_true z] at h2; cases h2)] at h
    repeat fail
    exact h
  have h2 : (!decide (w = word)) = false := h1
  have h2 : w = word := by simpa using h2
  repeat fail
  refine tr_opt (inF_nonT (dats_V dat_fV r)) ?_
  repeat fail
  refine tr_ite (fun h6 => ?_) (fun h6 => ?_)
  · rw [if_neg (by rintro ⟨_, z⟩; rw [z] at h6; cases h6)] at h
    repeat fail
    exact h
  · rw [if_pos ⟨h2, h6⟩] at h
    repeat fail
    exact h
/-! ### gains -/
def gainV (ws : List Str) : Option (Str × Int × Int) := match ws with
  | [a, b, c, d] => if a = "gain" ∧ isNm b = true then (intV (tl c)).bind fun i => (intV (tl d)).map fun j => (b, i, j) else none
  | _ => none
def pairD (i j : Int) : D := .tup [.int i, .int j]
def gainD : Option (Str × Int × Int) → D
  | none => .non
  | some (b, i, j) => .tup [.str b, pairD i j]
def zzD (o p : Option Int) : D := match o, p with
  | some i, some j => pairD i j
  | _, _ => .non
theorem zz_eq (o p : Option Int) : (if [optI o, optI p].any isNB = true then D.non else .tup [optI o, optI p]) = zzD o p := by
  cases o <;> cases p <;> rfl
theorem gainV_len {ws : List Str} (h : ws.length ≠ 4) : gainV ws = none := by
  unfold gainV
  split
  · exact absurd rfl h
  · rfl
theorem four_of {α : Type} {l : List α} (h : l.length = 4) : ∃ a b c d, l = [a, b, c, d] := by
  match l, h with
  | [a, b, c, d], _ => exact ⟨a, b, c, d, rfl⟩
theorem read_gain_rs {s : Str} {n : Nat} {P : Dv → List Dv → Prop} (hs : SOk n s) (hn : n ≤ 1000) (h : P (.p (gainD (gainV (spS 32 s)))) [.p (.str s)]) : RS (m_read_gain [.p (.str s)]) P := by
  refine rs_fn rfl ?_
  show Tr (b_read_gain [some (.p (.str s)), none, none]) _
  unfold b_read_gain
  repeat fail
  refine spl_ok hs (by omega) str_sp (by decide) ?_
  rw [split_eq str_sp (by decide)]
  have hok := spS_ok hs (c := 32)
  generalize spS 32 s = ws at h hok ⊢
  repeat fail
  refine tr_ite (fun h1 => ?_) (fun h1 => ?_)
  · have h2 : (!decide ((((ws.map D.str).length : Nat) : Int) = 4)) = true := h1
    rw [List.length_map] at h2
    rw [gainV_len (by intro e; rw [e] at h2; simp at h2)] at h
    repeat fail
    exact h
  have h2 : (!decide ((((ws.map D.str).length : Nat) : Int) = 4)) = false := h1
  rw [List.length_map] at h2
  have z2 : (ws.length : Int) = 4 := by simpa using h2
  obtain ⟨a, b, c, d, rfl⟩ := four_of (l := ws) (by omega)
  have hb : SOk n b := hok b (by simp)
  have hc : SOk n c := hok c (by simp)
  have hd : SOk n d := hok d (by simp)
  have hr : RdOk m_integer_in zV [c, d] := fun x hx P h => by
    have hx2 : SOk n x := hok x (by simp only [List.mem_cons] at hx ⊢; exact .inr (.inr hx))
    exact integer_in_rs hx2 (by omega) h
  dsimp only [gainV] at h
  dsimp only [List.map]
  repeat fail
  refine tr_ite (fun h3 => ?_) (fun h3 => ?_)
  · have h4 : (!decide (a = "gain")) = true := h3
    rw [if_neg (by rintro ⟨z, _⟩; rw [decide_eq_true z] at h4; cases h4)] at h
    repeat fail
    exact h
  have h4 : (!decide (a = "gain")) = false := h3
  have h4 : a = "gain" := by simpa using h4
  repeat fail
  refine tr_call rfl rfl rfl (is_name_rs hb hn ?_)
  dsimp only [updP, refsOf]
  repeat fail
  refine tr_ite (fun h5 => ?_) (fun h5 => ?_)
  · rw [if_neg (by rintro ⟨_, z⟩; rw [z] at h5; cases h5)] at h
    repeat fail
    exact h
  have h6 : isNm b = true := by simpa using h5
  rw [if_pos ⟨h4, h6⟩] at h
  repeat fail
  refine tr_call rfl rfl rfl (read_words_rs (ws := [c, d]) rfl hr (by show 2 ≤ 1000000; omega) (dats_V dat_zV _) ?_)
  dsimp only [updP, refsOf]
  have e : wordsD zV [c, d] = zzD (intV (tl c)) (intV (tl d)) := zz_eq _ _
  rw [e]
  cases e1 : intV (tl c) with
  | none =>
    rw [e1] at h
    unfold zzD
    repeat fail
    exact h
  | some i =>
    cases e2 : intV (tl d) with
    | none =>
      rw [e1, e2] at h
      unfold zzD
      repeat fail
      exact h
    | some j =>
      rw [e1, e2] at h
      unfold zzD pairD
      repeat fail
      exact h
theorem own_gain_rs {s : Str} {n : Nat} {P : Dv → List Dv → Prop} (hs : SOk n s) (hn : n ≤ 1000) (h : P (.p (gainD (gainV (spS 32 s)))) [.p (.str s)]) : RS (m__law_own_gain [.p (.str s)]) P := by
  refine rs_fn rfl ?_
  show Tr (b__law_own_gain [some (.p (.str s)), none, none]) _
  unfold b__law_own_gain
  repeat fail
  refine spl_ok hs (by omega) str_sp (by decide) ?_
  rw [split_eq str_sp (by decide)]
  have hok := spS_ok hs (c := 32)
  generalize spS 32 s = ws at h hok ⊢
  repeat fail
  refine tr_ite (fun h1 => ?_) (fun h1 => ?_)
  · have h2 : (!decide ((((ws.map D.str).length : Nat) : Int) = 4)) = true := h1
    rw [List.length_map] at h2
    rw [gainV_len (by intro e; rw [e] at h2; simp at h2)] at h
    repeat fail
    exact h
  have h2 : (!decide ((((ws.map D.str).length : Nat) : Int) = 4)) = false := h1
  rw [List.length_map] at h2
  have z2 : (ws.length : Int) = 4 := by simpa using h2
  obtain ⟨a, b, c, d, rfl⟩ := four_of (l := ws) (by omega)
  have hb : SOk n b := hok b (by simp)
  have hc : SOk n c := hok c (by simp)
  have hd : SOk n d := hok d (by simp)
  dsimp only [gainV] at h
  dsimp only [List.map]
  repeat fail
  refine tr_ite (fun h3 => ?_) (fun h3 => ?_)
  · have h4 : (!decide (a = "gain")) = true := h3
    rw [if_neg (by rintro ⟨z, _⟩; rw [decide_eq_true z] at h4; cases h4)] at h
    repeat fail
    exact h
  have h4 : (!decide (a = "gain")) = false := h3
  have h4 : a = "gain" := by simpa using h4
  repeat fail
  refine tr_call rfl rfl rfl (law_is_name_rs hb hn ?_)
  dsimp only [updP, refsOf]
  repeat fail
  refine tr_ite (fun h5 => ?_) (fun h5 => ?_)
  · rw [if_neg (by rintro ⟨_, z⟩; rw [z] at h5; cases h5)] at h
    repeat fail
    exact h
  have h6 : isNm b = true := by simpa using h5
  rw [if_pos ⟨h4, h6⟩] at h
  repeat fail
  refine tr_call rfl rfl rfl (own_integer_rs hc (by omega) ?_)
  dsimp only [updP, refsOf]
  repeat fail
  refine tr_call rfl rfl rfl (own_integer_rs hd (by omega) ?_)
  dsimp only [updP, refsOf]
  cases e1 : intV (tl c) with
  | none =>
    rw [e1] at h
    unfold optI
    repeat fail
    exact h
  | some i =>
    cases e2 : intV (tl d) with
    | none =>
      rw [e1, e2] at h
      unfold optI
      repeat fail
      exact h
    | some j =>
      rw [e1, e2] at h
      unfold optI
      repeat fail
      exact h

end Lk
end

section
set_option Elab.async false
set_option linter.all false
set_option maxRecDepth 100000
set_option autoImplicit false
set_option maxHeartbeats 1000000
namespace Lk
open Fl PySem
local macro_rules | `(tactic| fail) => `(tactic| first
  | with_reducible first
    | refine tr_seqS ?_ | refine tr_op2 ?_ | refine tr_pure ?_ | refine tr_setM ?_ | refine tr_ifM ?_ | refine tr_boolM ?_ | refine tr_callB ?_ | refine tr_consM ?_ | refine tr_setIxM ?_ | refine tr_andM ?_ | refine tr_orM ?_ | refine tr_notM ?_ | refine tr_retM ?_
    | refine tr_frzM ?_ | refine tr_callM ?_ | refine tr_consR ?_ | refine tr_argV ?_ | refine tr_forM ?_ | refine tr_itM ?_ | refine tr_setO ?_ | refine tr_lstM ?_ | refine tr_tupM ?_ | refine tr_bind ?_
    | refine tr_splS ?_ | refine tr_setKM ?_ | refine tr_inKM ?_ | refine tr_getM ?_ | refine tr_catM ?_ | refine tr_joinM ?_ | refine tr_inQM ?_ | refine tr_landV ?_ | refine tr_landM ?_ | refine tr_lorM ?_ | refine tr_bM ?_ | refine tr_ownC ?_ | refine tr_retO ?_ | refine tr_exprM ?_ | refine tr_seqM ?_ | refine tr_qM ?_ | refine tr_qN ?_ | refine tr_isiM ?_ | refine tr_negM ?_ | refine tr_bitsM ?_ | refine tr_partM ?_ | refine tr_slM ?_ | refine tr_chainL ?_ | refine tr_iteT ?_ | refine tr_iteF ?_ | refine tr_iteNF ?_ | refine tr_iteNT ?_ | refine tr_parM ?_
    | refine tr_consN ?_ | refine tr_newM ?_ | refine tr_callN ?_ | refine tr_asgM ?_ | refine tr_lcM ?_
  | ((with_reducible refine' tr_var ?e ?k); (case e => exact rfl))
  | with_reducible refine tr_chainM ?_
  | ((with_reducible refine' tr_ixOM ?e ?k); (case e => exact rfl))
  | ((with_reducible refine' tr_ixKM ?e ?k); (case e => exact rfl))
  | ((with_reducible refine' tr_frzSk ?e ?k); (case e => exact rfl); dsimp only [List.set])
  | ((with_reducible refine' tr_frzS ?e ?k); (case e => exact rfl); dsimp only [List.set])
  | ((with_reducible refine' tr_retVk ?e ?k); (case e => exact rfl))
  | ((with_reducible refine' tr_argR ?e ?f ?k); (case e => exact rfl); (case f => exact rfl))
  | ((with_reducible refine' tr_argB ?e ?f ?k); (case e => exact rfl); (case f => exact rfl))
  | ((with_reducible refine' tr_appM ?e ?k); (case e => exact rfl))
  | ((with_reducible refine' tr_retV ?e ?k); (case e => exact rfl))
  | ((with_reducible refine' tr_ownM ?e ?k); (case e => exact rfl))
  | ((with_reducible refine' tr_opt ?e ?k); (case e => exact rfl))
  | with_reducible refine tr_mul (by first | exact .inl (.inr ⟨by decide, by decide⟩) | exact .inl (.inl ⟨by omega, by omega⟩)) ?_
  | with_reducible refine tr_mod (by first | decide | omega) ?_
  | with_reducible refine tr_fdiv (by first | decide | assumption) ?_
  | ((with_reducible refine' ⟨_, _, _, _, ?e, ?f, ?g, ?k⟩); (case e => exact rfl); (case f => exact rfl); (case g => exact rfl); dsimp only [List.set])
  | ((with_reducible refine' ⟨_, _, (?e : _ = some (some (Dv.o _ _))), ?k⟩); (case e => exact rfl))
  | ((with_reducible refine' ⟨?e, ?k⟩); (case e => (with_reducible show okSlot _ _ = true); exact rfl); dsimp only [List.set])
  | ((with_reducible refine' ⟨?e, ?k⟩); (case e => (with_reducible show isO _ _ = true); exact rfl))
  | ((with_reducible refine' ⟨?e, ?k⟩); (case e => (with_reducible show List.length _ ≤ sizeLine); exact le_sz rfl))
  | ((with_reducible refine' ⟨?e, ?k⟩); (case e => (with_reducible show noIo _ _ = true); exact rfl))
  | ((with_reducible refine' ⟨okAt ?h ?e, ?k⟩); (case e => exact rfl); (case h => assumption); dsimp only [List.set])
  | ((with_reducible refine' ⟨noIoAt ?h ?e, ?k⟩); (case e => exact rfl); (case h => assumption))
  | ((with_reducible refine' ⟨_, (?e : _ = some (some (Dv.p _))), ?k⟩); (case e => exact rfl))
  | ((with_reducible refine' ⟨?e, ?k⟩); (case e => (with_reducible show isK _ _ = true); exact rfl)))
open TL (tl)
mutual
/-- no list in it is long -/
def shortD : D → Bool
  | .tup xs => decide (xs.length ≤ 1000000) && shortDs xs
  | .lst xs => decide (xs.length ≤ 1000000) && shortDs xs
  | _ => true
def shortDs : List D → Bool
  | [] => true
  | d :: r => shortD d && shortDs r
end
theorem shortDs_mem : ∀ {xs : List D} {d : D}, shortDs xs = true → d ∈ xs → shortD d = true
  | e :: r, d, h, hm => by
    unfold shortDs at h
    obtain ⟨h1, h2⟩ := Bool.and_eq_true_iff.mp h
    rcases List.mem_cons.mp hm with rfl | hm
    · exact h1
    · exact shortDs_mem h2 hm
theorem told_same : ∀ (n k : Nat) (d : D) (P : Dv → List Dv → Prop), n < k → dat n d = true → shortD d = true → P (.p (.bl true)) [.p d, .p d] → RS (m__law_told k [.p d, .p d]) P := by
  intro n
  induction n with
  | zero =>
    intro k d P hk hd hs h
    obtain ⟨k, rfl⟩ : ∃ j, k = j + 1 := ⟨k - 1, by omega⟩
    refine rs_fn rfl ?_
    show Tr (b__law_told (m__law_told k) [some (.p d), some (.p d), none, none]) _
    unfold b__law_told
    cases d with
    | non => 
      repeat fail
      exact h
    | bl b =>
      repeat fail
      refine tr_iteC (rfl) ?_
      repeat fail
      refine tr_iteC (rfl) ?_
      repeat fail
      refine tr_iteC (rfl) ?_
      repeat fail
      rw [decide_eq_true rfl]
      exact h
    | int i =>
      repeat fail
      refine tr_iteD (rfl) ?_
      repeat fail
      refine tr_iteD (rfl) ?_
      repeat fail
      refine tr_iteC (rfl) ?_
      repeat fail
      refine tr_iteC (rfl) ?_
      repeat fail
      rw [decide_eq_true rfl]
      exact h
    | str i =>
      repeat fail
      refine tr_iteD (rfl) ?_
      repeat fail
      refine tr_iteD (rfl) ?_
      repeat fail
      refine tr_iteD (rfl) ?_
      repeat fail
      refine tr_iteC (rfl) ?_
      repeat fail
      refine tr_iteC (rfl) ?_
      repeat fail
      rw [decide_eq_true rfl]
      exact h
    | tup xs => unfold dat at hd; cases hd
    | lst xs => unfold dat at hd; cases hd
    | scr _ => unfold dat at hd; cases hd
    | fn _ => unfold dat at hd; cases hd
    | dct _ => unfold dat at hd; cases hd
  | succ n ih =>
    intro k d P hk hd hs h
    obtain ⟨k, rfl⟩ : ∃ j, k = j + 1 := ⟨k - 1, by omega⟩
    cases d with
    | tup xs =>
      refine rs_fn rfl ?_
      show Tr (b__law_told (m__law_told k) [some (.p (.tup xs)), some (.p (.tup xs)), none, none]) _
      unfold b__law_told
      unfold dat at hd
      unfold shortD at hs
      obtain ⟨hs1, hs2⟩ := Bool.and_eq_true_iff.mp hs
      have hs1 := of_decide_eq_true hs1
      rw [dats_all, List.all_eq_true] at hd
      repeat fail
      refine tr_iteD (rfl) ?_
      repeat fail
      refine tr_iteD (rfl) ?_
      repeat fail
      refine tr_iteD (rfl) ?_
      repeat fail
      refine tr_iteD (rfl) ?_
      repeat fail
      refine tr_iteD (rfl) ?_
      repeat fail
      refine tr_iteD (rfl) ?_
      repeat fail
      refine tr_iteD (rfl) ?_
      repeat fail
      refine tr_iteD (rfl) ?_
      repeat fail
      refine tr_iteD (by simp) ?_
      repeat fail
      refine tr_rng (by show -(2 ^ 40) < ((xs.length : Nat) : Int); omega) (by show ((xs.length : Nat) : Int) < 2 ^ 40; omega) ?_
      refine tr_forN (σ := Option Dv) (fun x => [some (.p (.tup xs)), some (.p (.tup xs)), x, none]) (fun _ x => OkS x) none _ .n rfl ?_ ?_
      · rintro i x hi hx
        have hi : (i : Int) < ((xs.length : Nat) : Int) := hi
        have hil : i < xs.length := by omega
        refine ⟨_, tgN_ok (okAt hx rfl), ?_⟩
        dsimp only [List.set]
        repeat fail
        refine tr_opt (ix_tup (List.getElem?_eq_getElem hil)) ?_
        repeat fail
        refine tr_opt (ix_tup (List.getElem?_eq_getElem hil)) ?_
        repeat fail
        refine tr_call rfl rfl rfl (ih k xs[i] _ (by omega) (hd _ (List.getElem_mem _)) (shortDs_mem hs2 (List.getElem_mem _)) ?_)
        dsimp only [updP, refsOf]
        repeat fail
        exact ⟨_, rfl, .p⟩
      · rintro x hx
        repeat fail
        exact h
    | lst xs =>
      refine rs_fn rfl ?_
      show Tr (b__law_told (m__law_told k) [some (.p (.lst xs)), some (.p (.lst xs)), none, none]) _
      unfold b__law_told
      unfold dat at hd
      unfold shortD at hs
      obtain ⟨hs1, hs2⟩ := Bool.and_eq_true_iff.mp hs
      have hs1 := of_decide_eq_true hs1
      rw [dats_all, List.all_eq_true] at hd
      repeat fail
      refine tr_iteD (rfl) ?_
      repeat fail
      refine tr_iteD (rfl) ?_
      repeat fail
      refine tr_iteD (rfl) ?_
      repeat fail
      refine tr_iteD (rfl) ?_
      repeat fail
      refine tr_iteD (rfl) ?_
      repeat fail
      refine tr_iteD (rfl) ?_
      repeat fail
      refine tr_iteD (rfl) ?_
      repeat fail
      refine tr_iteD (rfl) ?_
      repeat fail
      refine tr_iteD (by simp) ?_
      repeat fail
      refine tr_rng (by show -(2 ^ 40) < ((xs.length : Nat) : Int); omega) (by show ((xs.length : Nat) : Int) < 2 ^ 40; omega) ?_
      refine tr_forN (σ := Option Dv) (fun x => [some (.p (.lst xs)), some (.p (.lst xs)), x, none]) (fun _ x => OkS x) none _ .n rfl ?_ ?_
      · rintro i x hi hx
        have hi : (i : Int) < ((xs.length : Nat) : Int) := hi
        have hil : i < xs.length := by omega
        refine ⟨_, tgN_ok (okAt hx rfl), ?_⟩
        dsimp only [List.set]
        repeat fail
        refine tr_opt (ix_lst (List.getElem?_eq_getElem hil)) ?_
        repeat fail
        refine tr_opt (ix_lst (List.getElem?_eq_getElem hil)) ?_
        repeat fail
        refine tr_call rfl rfl rfl (ih k xs[i] _ (by omega) (hd _ (List.getElem_mem _)) (shortDs_mem hs2 (List.getElem_mem _)) ?_)
        dsimp only [updP, refsOf]
        repeat fail
        exact ⟨_, rfl, .p⟩
      · rintro x hx
        repeat fail
        exact h
    | scr _ => unfold dat at hd; cases hd
    | fn _ => unfold dat at hd; cases hd
    | dct _ => unfold dat at hd; cases hd
    | non => exact ih (k + 1) .non P (by omega) (by unfold dat; rfl) hs h
    | bl b => exact ih (k + 1) (.bl b) P (by omega) (by unfold dat; rfl) hs h
    | int i => exact ih (k + 1) (.int i) P (by omega) (by unfold dat; rfl) hs h
    | str s => exact ih (k + 1) (.str s) P (by omega) (by unfold dat at hd ⊢; exact hd) hs h

end Lk
end

section
set_option Elab.async false
set_option linter.all false
set_option maxRecDepth 100000
set_option autoImplicit false
set_option maxHeartbeats 1000000
namespace Lk
open Fl PySem
local macro_rules | `(tactic| fail) => `(tactic| first
  | with_reducible first
    | refine tr_seqS ?_ | refine tr_op2 ?_ | refine tr_pure ?_ | refine tr_setM ?_ | refine tr_ifM ?_ | refine tr_boolM ?_ | refine tr_callB ?_ | refine tr_consM ?_ | refine tr_setIxM ?_ | refine tr_andM ?_ | refine tr_orM ?_ | refine tr_notM ?_ | refine tr_retM ?_
    | refine tr_frzM ?_ | refine tr_callM ?_ | refine tr_consR ?_ | refine tr_argV ?_ | refine tr_forM ?_ | refine tr_itM ?_ | refine tr_setO ?_ | refine tr_lstM ?_ | refine tr_tupM ?_ | refine tr_bind ?_
    | refine tr_splS ?_ | refine tr_setKM ?_ | refine tr_inKM ?_ | refine tr_getM ?_ | refine tr_catM ?_ | refine tr_joinM ?_ | refine tr_inQM ?_ | refine tr_landV ?_ | refine tr_landM ?_ | refine tr_lorM ?_ | refine tr_bM ?_ | refine tr_ownC ?_ | refine tr_retO ?_ | refine tr_exprM ?_ | refine tr_seqM ?_ | refine tr_qM ?_ | refine tr_qN ?_ | refine tr_isiM ?_ | refine tr_negM ?_ | refine tr_bitsM ?_ | refine tr_partM ?_ | refine tr_slM ?_ | refine tr_chainL ?_ | refine tr_iteT ?_ | refine tr_iteF ?_ | refine tr_iteNF ?_ | refine tr_iteNT ?_ | refine tr_parM ?_
    | refine tr_consN ?_ | refine tr_newM ?_ | refine tr_callN ?_ | refine tr_asgM ?_ | refine tr_lcM ?_
  | ((with_reducible refine' tr_var ?e ?k); (case e => exact rfl))
  | with_reducible refine tr_chainM ?_
  | ((with_reducible refine' tr_ixOM ?e ?k); (case e => exact rfl))
  | ((with_reducible refine' tr_ixKM ?e ?k); (case e => exact rfl))
  | ((with_reducible refine' tr_frzSk ?e ?k); (case e => exact rfl); dsimp only [List.set])
  | ((with_reducible refine' tr_frzS ?e ?k); (case e => exact rfl); dsimp only [List.set])
  | ((with_reducible refine' tr_retVk ?e ?k); (case e => exact rfl))
  | ((with_reducible refine' tr_argR ?e ?f ?k); (case e => exact rfl); (case f => exact rfl))
  | ((with_reducible refine' tr_argB ?e ?f ?k); (case e => exact rfl); (case f => exact rfl))
  | ((with_reducible refine' tr_appM ?e ?k); (case e => exact rfl))
  | ((with_reducible refine' tr_retV ?e ?k); (case e => exact rfl))
  | ((with_reducible refine' tr_ownM ?e ?k); (case e => exact rfl))
  | ((with_reducible refine' tr_opt ?e ?k); (case e => exact rfl))
  | with_reducible refine tr_mul (by first | exact .inl (.inr ⟨by decide, by decide⟩) | exact .inl (.inl ⟨by omega, by omega⟩)) ?_
  | with_reducible refine tr_mod (by first | decide | omega) ?_
  | with_reducible refine tr_fdiv (by first | decide | assumption) ?_
  | ((with_reducible refine' ⟨_, _, _, _, ?e, ?f, ?g, ?k⟩); (case e => exact rfl); (case f => exact rfl); (case g => exact rfl); dsimp only [List.set])
  | ((with_reducible refine' ⟨_, _, (?e : _ = some (some (Dv.o _ _))), ?k⟩); (case e => exact rfl))
  | ((with_reducible refine' ⟨?e, ?k⟩); (case e => (with_reducible show okSlot _ _ = true); exact rfl); dsimp only [List.set])
  | ((with_reducible refine' ⟨?e, ?k⟩); (case e => (with_reducible show isO _ _ = true); exact rfl))
  | ((with_reducible refine' ⟨?e, ?k⟩); (case e => (with_reducible show List.length _ ≤ sizeLine); exact le_sz rfl))
  | ((with_reducible refine' ⟨?e, ?k⟩); (case e => (with_reducible show noIo _ _ = true); exact rfl))
  | ((with_reducible refine' ⟨okAt ?h ?e, ?k⟩); (case e => exact rfl); (case h => assumption); dsimp only [List.set])
  | ((with_reducible refine' ⟨noIoAt ?h ?e, ?k⟩); (case e => exact rfl); (case h => assumption))
  | ((with_reducible refine' ⟨_, (?e : _ = some (some (Dv.p _))), ?k⟩); (case e => exact rfl))
  | ((with_reducible refine' ⟨?e, ?k⟩); (case e => (with_reducible show isK _ _ = true); exact rfl)))
open TL (tl)
/-! ### texts in order -/
def leS (a b : Str) : Bool := decide (tl a ≤ tl b)
def sortS (ss : List Str) : List Str := ss.mergeSort leS
theorem leS_trans (a b c : Str) (h1 : leS a b = true) (h2 : leS b c = true) : leS a c = true :=
  decide_eq_true (List.le_trans (of_decide_eq_true h1) (of_decide_eq_true h2))
theorem leS_total (a b : Str) : (leS a b || leS b a) = true := by
  rcases List.le_total (tl a) (tl b) with h | h
  · rw [Bool.or_eq_true]; exact .inl (decide_eq_true h)
  · rw [Bool.or_eq_true]; exact .inr (decide_eq_true h)
theorem sortS_eq (ss : List Str) : sortD (ss.map D.str) = (sortS ss).map D.str :=
  (List.map_mergeSort (f := D.str) (r := leS) (s := PySem.W.dataLe false D.py) (fun a _ b _ => (congrFun (congrFun (PySem.W.dataLe_str (k := id)) a) b).symm)).symm
theorem sortOk_strs {ss : List Str} (h : ∀ s ∈ ss, PyData.strOk s = true) (hl : ss.length ≤ 1000) : sortOk (ss.map D.str) = true := by
  have h1 := (dats_ok 1 _ (dats_strs 1 ss h)).1
  have h2 : ((ss.map D.str).all fun d => (ss.map D.str).all fun e => PySem.W.alike d.py e.py) = true := by
    rw [List.all_eq_true]
    intro x hx
    rw [List.all_eq_true]
    intro y hy
    obtain ⟨r, hr, rfl⟩ := List.mem_map.mp hx
    obtain ⟨q, hq, rfl⟩ := List.mem_map.mp hy
    simp [D.py, PySem.W.alike]
  have h3 : ((ss.map D.str).all fun d => match d with | .tup _ => false | .non => false | .fn _ => false | .dct _ => false | _ => true) = true := by
    rw [List.all_eq_true]
    intro x hx
    obtain ⟨r, hr, rfl⟩ := List.mem_map.mp hx
    rfl
  have h4 : ((ss.map D.str).all fun d => decide (d.py.depth ≤ 64)) = true := by
    rw [List.all_eq_true]
    intro x hx
    obtain ⟨r, hr, rfl⟩ := List.mem_map.mp hx
    have := (dat_ok 1 (.str r) (by unfold dat; exact h r hr)).2.2
    exact decide_eq_true (by omega)
  have h5 : decide ((ss.map D.str).length ≤ sizeLine) = true := decide_eq_true (by rw [List.length_map]; show _ ≤ 2 ^ 24; omega)
  unfold sortOk
  simp only [Bool.and_eq_true, Bool.or_eq_true]
  exact ⟨⟨⟨⟨h1, h2⟩, .inr h3⟩, h5⟩, h4⟩
theorem sortS_perm (ss : List Str) : (sortS ss).Perm ss := List.mergeSort_perm _ _
theorem sortS_sorted (ss : List Str) : (sortS ss).Pairwise fun a b => leS a b = true := List.pairwise_mergeSort leS_trans leS_total ss
theorem sortS_again (ss : List Str) : sortS (sortS ss) = sortS ss := List.mergeSort_of_pairwise (sortS_sorted ss)
theorem lt_of_leS {a b : Str} (h : leS a b = true) (hne : a ≠ b) : tl a < tl b := by
  have h1 : tl a ≤ tl b := of_decide_eq_true h
  by_cases h2 : tl a < tl b
  · exact h2
  · exact absurd (TL.ext_tl (List.le_antisymm h1 (List.not_lt.mp h2))) hne
/-! ### dicts of gains -/
abbrev Gs := List (Str × Int × Int)
def kvG (g : Gs) : List (L2.Key × D) := g.map fun q => (.inr q.1, pairD q.2.1 q.2.2)
def nmG (g : Gs) : List Str := g.map (·.1)
def putG (g : Gs) (s : Str) (p : Int × Int) : Gs := if (g.any fun q => decide (q.1 = s)) = true then g.map fun q => if q.1 = s then (q.1, p) else q else g ++ [(s, p)]
theorem key_dec (a b : Str) : decide ((Sum.inr a : L2.Key) = Sum.inr b) = decide (a = b) := by
  by_cases h : a = b
  · subst h; simp
  · rw [decide_eq_false h, decide_eq_false]
    intro z
    exact h (Sum.inr.inj z)
theorem any_kvG (g : Gs) (s : Str) : ((kvG g).any fun kv => decide (kv.1 = (Sum.inr s : L2.Key))) = g.any fun q => decide (q.1 = s) := by
  unfold kvG
  rw [List.any_map]
  congr 1
  funext q
  exact key_dec q.1 s
theorem put_kvG (g : Gs) (s : Str) (i j : Int) : kvPut (kvG g) (.inr s) (pairD i j) = kvG (putG g s (i, j)) := by
  unfold kvPut putG
  rw [any_kvG]
  split
  · unfold kvG
    rw [List.map_map, List.map_map]
    refine List.map_congr_left fun q _ => ?_
    show (if (Sum.inr q.1 : L2.Key) = Sum.inr s then ((Sum.inr q.1 : L2.Key), pairD i j) else ((Sum.inr q.1 : L2.Key), pairD q.2.1 q.2.2)) = _
    by_cases h : q.1 = s
    · rw [if_pos (by rw [h])]
      show _ = (Sum.inr (if q.1 = s then (q.1, i, j) else q).1, pairD (if q.1 = s then (q.1, i, j) else q).2.1 (if q.1 = s then (q.1, i, j) else q).2.2)
      rw [if_pos h]
    · rw [if_neg (by intro z; exact h (Sum.inr.inj z))]
      show _ = (Sum.inr (if q.1 = s then (q.1, i, j) else q).1, pairD (if q.1 = s then (q.1, i, j) else q).2.1 (if q.1 = s then (q.1, i, j) else q).2.2)
      rw [if_neg h]
  · unfold kvG
    rw [List.map_append]
    rfl
theorem kvD_kvG {g : Gs} (hn : (nmG g).Nodup) : ∀ q ∈ g, kvD (kvG g) (.inr q.1) = some (pairD q.2.1 q.2.2) := by
  induction g with
  | nil => intro q h; cases h
  | cons r g ih =>
    intro q hq
    unfold nmG at hn
    rw [List.map_cons, List.nodup_cons] at hn
    unfold kvD kvG
    rw [List.map_cons, List.find?_cons]
    rcases List.mem_cons.mp hq with rfl | hq
    · dsimp only
      rw [decide_eq_true rfl]
      rfl
    · dsimp only
      rw [decide_eq_false (by
        intro z
        have z := Sum.inr.inj z
        exact hn.1 (by rw [z]; exact List.mem_map_of_mem hq))]
      have := ih hn.2 q hq
      unfold kvD kvG at this
      exact this
theorem putG_names (g : Gs) (s : Str) (p : Int × Int) : nmG (putG g s p) = if (g.any fun q => decide (q.1 = s)) = true then nmG g else nmG g ++ [s] := by
  unfold putG nmG
  split
  · rw [List.map_map]
    refine List.map_congr_left fun q _ => ?_
    show (if q.1 = s then (q.1, p) else q).1 = q.1
    split <;> rfl
  · rw [List.map_append]; rfl
theorem putG_nodup {g : Gs} {s : Str} {p : Int × Int} (h : (nmG g).Nodup) : (nmG (putG g s p)).Nodup := by
  rw [putG_names]
  split
  · exact h
  · rename_i hh
    rw [List.nodup_append]
    refine ⟨h, by simp, fun a ha b hb => ?_⟩
    rw [List.mem_singleton.mp hb]
    rintro rfl
    obtain ⟨q, hq, e⟩ := List.mem_map.mp ha
    exact hh (List.any_eq_true.mpr ⟨q, hq, decide_eq_true e⟩)
theorem putG_mem {g : Gs} {s : Str} {p : Int × Int} : ∀ q ∈ putG g s p, q ∈ g ∨ q = (s, p) := by
  intro q hq
  unfold putG at hq
  split at hq
  · obtain ⟨r, hr, rfl⟩ := List.mem_map.mp hq
    split
    · rename_i e; rw [e]; exact .inr rfl
    · exact .inl hr
  · rcases List.mem_append.mp hq with h | h
    · exact .inl h
    · exact .inr (List.mem_singleton.mp h)
theorem putG_len (g : Gs) (s : Str) (p : Int × Int) : (putG g s p).length ≤ g.length + 1 := by
  unfold putG
  split
  · rw [List.length_map]; omega
  · rw [List.length_append]; simp
theorem putG_new {g : Gs} {s : Str} {p : Int × Int} (h : s ∉ nmG g) : putG g s p = g ++ [(s, p)] := by
  unfold putG
  rw [if_neg]
  intro z
  obtain ⟨q, hq, e⟩ := List.any_eq_true.mp z
  exact h (by rw [← of_decide_eq_true e]; exact List.mem_map_of_mem hq)
theorem keys_kvG (g : Gs) : ((kvG g).map fun q => keyD q.1) = (nmG g).map D.str := by
  unfold kvG nmG
  rw [List.map_map, List.map_map]
  rfl
def NmOk (s : Str) : Prop := isNm s = true ∧ SOk 12 s
structure GOk (g : Gs) : Prop where
  l : g.length ≤ 900
  d : (nmG g).Nodup
  n : ∀ q ∈ g, PyData.strOk q.1 = true
theorem sortKF_kvG {g : Gs} (h : GOk g) : sortKF (.dct (kvG g)) = some (.o false ((sortS (nmG g)).map D.str)) := by
  unfold sortKF
  dsimp only
  rw [keys_kvG, if_pos (sortOk_strs (fun s hs => by obtain ⟨q, hq, rfl⟩ := List.mem_map.mp hs; exact h.n q hq) (by unfold nmG; rw [List.length_map]; have := h.l; omega)), sortS_eq]
def sortG (g : Gs) : Gs := g.mergeSort fun p q => leS p.1 q.1
theorem nm_sortG (g : Gs) : nmG (sortG g) = sortS (nmG g) := List.map_mergeSort (f := fun q : Str × Int × Int => q.1) (r := fun p q : Str × Int × Int => leS p.1 q.1) (s := leS) (l := g) fun _ _ _ _ => rfl
theorem sortG_perm (g : Gs) : (sortG g).Perm g := List.mergeSort_perm _ _
theorem GOk.sort {g : Gs} (h : GOk g) : GOk (sortG g) := ⟨by rw [(sortG_perm g).length_eq]; exact h.l, by rw [nm_sortG]; exact ((sortS_perm _).nodup_iff).mpr h.d, fun q hq => h.n q ((sortG_perm g).mem_iff.mp hq)⟩
theorem sortG_lt {g : Gs} (h : GOk g) : (sortG g).Pairwise fun p q => tl p.1 < tl q.1 := by
  have h1 : (nmG (sortG g)).Pairwise fun a b => leS a b = true := by rw [nm_sortG]; exact sortS_sorted _
  have h2 : (nmG (sortG g)).Pairwise fun a b => a ≠ b := h.sort.d
  have h3 := h1.and h2
  unfold nmG at h3
  rw [List.pairwise_map] at h3
  exact h3.imp fun z => lt_of_leS z.1 z.2
theorem neF_strs {ss : List Str} (h : ∀ s ∈ ss, PyData.strOk s = true) : neF (.lst (ss.map D.str)) (.lst (ss.map D.str)) = some (.bl false) := by
  have hd : dat 2 (.lst (ss.map D.str)) = true := by unfold dat; exact dats_strs 1 ss h
  have h1 : chk (.lst (ss.map D.str)) = true := dat_chk hd (by omega)
  show ((if (chk (.lst (ss.map D.str)) && chk (.lst (ss.map D.str))) = true then some (PyData.eqv (D.lst (ss.map D.str)).py (D.lst (ss.map D.str)).py) else none)).map (fun b => D.bl (!b)) = _
  rw [h1, eqv_self 2 _ hd]
  rfl
theorem told_dct {g g' : Gs} {k : Nat} {P : Dv → List Dv → Prop} (hg : GOk g) (hg' : GOk g') (hs : sortS (nmG g) = sortS (nmG g')) (hm : ∀ q ∈ g', q ∈ g) (hk : 3 < k) (h : P (.p (.bl true)) [.p (.dct (kvG g)), .p (.dct (kvG g'))]) :
    RS (m__law_told (k + 1) [.p (.dct (kvG g)), .p (.dct (kvG g'))]) P := by
  refine rs_fn rfl ?_
  show Tr (b__law_told (m__law_told k) [some (.p (.dct (kvG g))), some (.p (.dct (kvG g'))), none, none]) _
  unfold b__law_told
  repeat fail
  refine tr_iteD (rfl) ?_
  repeat fail
  refine tr_iteD (rfl) ?_
  repeat fail
  refine tr_iteD (rfl) ?_
  repeat fail
  refine tr_iteD (rfl) ?_
  repeat fail
  refine tr_iteC (rfl) ?_
  repeat fail
  refine tr_iteD (rfl) ?_
  repeat fail
  refine tr_opt (sortKF_kvG hg) ?_
  repeat fail
  refine tr_opt (sortKF_kvG hg') ?_
  repeat fail
  rw [hs]
  refine tr_opt (neF_strs (fun s hs => by obtain ⟨q, hq, rfl⟩ := List.mem_map.mp ((sortS_perm _).mem_iff.mp hs); exact hg'.n q hq)) ?_
  repeat fail
  rw [keys_kvG]
  unfold nmG
  rw [List.map_map]
  refine tr_lcS (σ := Unit) (fun _ => [some (.p (.dct (kvG g))), some (.p (.dct (kvG g'))), none, none]) (fun q acc _ => (∀ x ∈ q, x ∈ g') ∧ acc = []) g' () _ ⟨fun _ h => h, rfl⟩ rfl ?_ ?_
  · rintro x q acc _ ⟨hx, rfl⟩
    have hx1 := hx x (List.mem_cons_self ..)
    refine ⟨_, tgN_ok rfl, ?_⟩
    dsimp only [List.set]
    repeat fail
    refine tr_opt (show ixF (.dct (kvG g)) (D.str x.1) = some (pairD x.2.1 x.2.2) from kvD_kvG hg.d x (hm x hx1)) ?_
    repeat fail
    refine tr_opt (show ixF (.dct (kvG g')) (D.str x.1) = some (pairD x.2.1 x.2.2) from kvD_kvG hg'.d x hx1) ?_
    repeat fail
    refine tr_call rfl rfl rfl (told_same 1 k (pairD x.2.1 x.2.2) _ (by omega) rfl rfl ?_)
    dsimp only [updP, refsOf]
    repeat fail
    exact ⟨(), rfl, fun y hy => hx y (List.mem_cons_of_mem _ hy), rfl⟩
  · rintro acc _ ⟨_, rfl⟩
    repeat fail
    exact h

end Lk
end

section
set_option Elab.async false
set_option linter.all false
set_option maxRecDepth 100000
set_option autoImplicit false
set_option maxHeartbeats 1000000
namespace Lk
open Fl PySem
local macro_rules | `(tactic| fail) => `(tactic| first
  | with_reducible first
    | refine tr_seqS ?_ | refine tr_op2 ?_ | refine tr_pure ?_ | refine tr_setM ?_ | refine tr_ifM ?_ | refine tr_boolM ?_ | refine tr_callB ?_ | refine tr_consM ?_ | refine tr_setIxM ?_ | refine tr_andM ?_ | refine tr_orM ?_ | refine tr_notM ?_ | refine tr_retM ?_
    | refine tr_frzM ?_ | refine tr_callM ?_ | refine tr_consR ?_ | refine tr_argV ?_ | refine tr_forM ?_ | refine tr_itM ?_ | refine tr_setO ?_ | refine tr_lstM ?_ | refine tr_tupM ?_ | refine tr_bind ?_
    | refine tr_splS ?_ | refine tr_setKM ?_ | refine tr_inKM ?_ | refine tr_getM ?_ | refine tr_catM ?_ | refine tr_joinM ?_ | refine tr_inQM ?_ | refine tr_landV ?_ | refine tr_landM ?_ | refine tr_lorM ?_ | refine tr_bM ?_ | refine tr_ownC ?_ | refine tr_retO ?_ | refine tr_exprM ?_ | refine tr_seqM ?_ | refine tr_qM ?_ | refine tr_qN ?_ | refine tr_isiM ?_ | refine tr_negM ?_ | refine tr_bitsM ?_ | refine tr_partM ?_ | refine tr_slM ?_ | refine tr_chainL ?_ | refine tr_iteT ?_ | refine tr_iteF ?_ | refine tr_iteNF ?_ | refine tr_iteNT ?_ | refine tr_parM ?_
    | refine tr_consN ?_ | refine tr_newM ?_ | refine tr_callN ?_ | refine tr_asgM ?_ | refine tr_lcM ?_
  | ((with_reducible refine' tr_var ?e ?k); (case e => exact rfl))
  | with_reducible refine tr_chainM ?_
  | ((with_reducible refine' tr_ixOM ?e ?k); (case e => exact rfl))
  | ((with_reducible refine' tr_ixKM ?e ?k); (case e => exact rfl))
  | ((with_reducible refine' tr_frzSk ?e ?k); (case e => exact rfl); dsimp only [List.set])
  | ((with_reducible refine' tr_frzS ?e ?k); (case e => exact rfl); dsimp only [List.set])
  | ((with_reducible refine' tr_retVk ?e ?k); (case e => exact rfl))
  | ((with_reducible refine' tr_argR ?e ?f ?k); (case e => exact rfl); (case f => exact rfl))
  | ((with_reducible refine' tr_argB ?e ?f ?k); (case e => exact rfl); (case f => exact rfl))
  | ((with_reducible refine' tr_appM ?e ?k); (case e => exact rfl))
  | ((with_reducible refine' tr_retV ?e ?k); (case e => exact rfl))
  | ((with_reducible refine' tr_ownM ?e ?k); (case e => exact rfl))
  | ((with_reducible refine' tr_opt ?e ?k); (case e => exact rfl))
  | with_reducible refine tr_mul (by first | exact .inl (.inr ⟨by decide, by decide⟩) | exact .inl (.inl ⟨by omega, by omega⟩)) ?_
  | with_reducible refine tr_mod (by first | decide | omega) ?_
  | with_reducible refine tr_fdiv (by first | decide | assumption) ?_
  | ((with_reducible refine' ⟨_, _, _, _, ?e, ?f, ?g, ?k⟩); (case e => exact rfl); (case f => exact rfl); (case g => exact rfl); dsimp only [List.set])
  | ((with_reducible refine' ⟨_, _, (?e : _ = some (some (Dv.o _ _))), ?k⟩); (case e => exact rfl))
  | ((with_reducible refine' ⟨?e, ?k⟩); (case e => (with_reducible show okSlot _ _ = true); exact rfl); dsimp only [List.set])
  | ((with_reducible refine' ⟨?e, ?k⟩); (case e => (with_reducible show isO _ _ = true); exact rfl))
  | ((with_reducible refine' ⟨?e, ?k⟩); (case e => (with_reducible show List.length _ ≤ sizeLine); exact le_sz rfl))
  | ((with_reducible refine' ⟨?e, ?k⟩); (case e => (with_reducible show noIo _ _ = true); exact rfl))
  | ((with_reducible refine' ⟨okAt ?h ?e, ?k⟩); (case e => exact rfl); (case h => assumption); dsimp only [List.set])
  | ((with_reducible refine' ⟨noIoAt ?h ?e, ?k⟩); (case e => exact rfl); (case h => assumption))
  | ((with_reducible refine' ⟨_, (?e : _ = some (some (Dv.p _))), ?k⟩); (case e => exact rfl))
  | ((with_reducible refine' ⟨?e, ?k⟩); (case e => (with_reducible show isK _ _ = true); exact rfl)))
open TL (tl)
def NmW (n : Nat) (s : Str) : Prop := isNm s = true ∧ SOk n s
theorem NmW.mono {n m : Nat} {s : Str} (h : NmW n s) (hl : n ≤ m) : NmW m s := ⟨h.1, h.2.mono hl⟩
def Sg (c : Nat) : Prop := c ∈ LTR ∨ c ∈ DGT
theorem isNm_app {a b : Str} (ha : isNm a = true) (hb : ∀ c ∈ tl b, Sg c) (hl : (tl a).length + (tl b).length ≤ 12) : isNm (a ++ b) = true := by
  unfold isNm at ha ⊢
  have e : (a ++ b).cps.toList = tl a ++ tl b := TL.tl_append a b
  rw [e]
  have ha : isNmL (tl a) = true := ha
  revert ha hl
  cases tl a with
  | nil => intro h1 h2; cases h2
  | cons c r =>
    intro hl ha
    unfold isNmL at ha ⊢
    rw [List.cons_append]
    dsimp only at ha ⊢
    rw [Bool.and_eq_true, Bool.and_eq_true] at ha ⊢
    refine ⟨decide_eq_true (by rw [List.length_append]; rw [List.length_cons] at hl; omega), ha.2.1, ?_⟩
    rw [← List.cons_append, List.all_append, ha.2.2, Bool.true_and, List.all_eq_true]
    intro x hx
    rw [Bool.or_eq_true]
    rcases hb x hx with z | z
    · exact .inl (decide_eq_true z)
    · exact .inr (decide_eq_true z)
theorem NmW.add {n m : Nat} {a b : Str} (ha : NmW n a) (hb : SOk m b) (hc : ∀ c ∈ tl b, Sg c) (hl : n + m ≤ 12) : NmW (n + m) (a ++ b) :=
  ⟨isNm_app ha.1 hc (by have := (okS_iff.mp ha.2).1; have := (okS_iff.mp hb).1; omega), ha.2.append hb⟩
theorem nm_sign {ch : Nat} (h : ch ∈ ("abcdefghijklmnopqrstuvwxyz" : Str).cps.toList) : isNm ⟨#[ch]⟩ = true := by
  have h : ch ∈ LTR := h
  show isNmL [ch] = true
  unfold isNmL
  simp [h]
theorem sg_mem {ch : Nat} (h : ch ∈ (("abcdefghijklmnopqrstuvwxyz" : Str) ++ ("0123456789" : Str)).cps.toList) : Sg ch := by
  have e : (("abcdefghijklmnopqrstuvwxyz" : Str) ++ ("0123456789" : Str)).cps.toList = LTR ++ DGT := TL.tl_append _ _
  rw [e] at h
  exact List.mem_append.mp h
theorem dg_sg {c : Nat} (h : 48 ≤ c ∧ c ≤ 57) : Sg c := .inr (of_decide_eq_true (by rw [mem_DGT]; unfold isDg; rw [decide_eq_true h.1, decide_eq_true h.2]; rfl))
theorem num_signs (k : Nat) : ∀ c ∈ tl ((toString (k : Int) : String) : Str), Sg c := fun c hc => by
  have hc : c ∈ tl (Str.ofString (toString ((k : Nat) : Int))) := hc
  rw [TL.tl_num] at hc
  exact dg_sg (TL.numL_digits k c hc)
theorem name3_rs {ns : List Int} {us : List Str} {a b c : Int} {P : Dv → List Dv → Prop} (ha : 0 ≤ a) (hc : 0 ≤ c ∧ c < 2147483648) (hu : ∀ s ∈ us, PyData.strOk s = true) (hlen : us.length ≤ 900)
    (h : ∀ (s : Str) (a' b' c' : Int), NmW 10 s → 0 ≤ a' → (0 ≤ c' ∧ c' < 2147483648) → P (.p (.str s)) [.p (.scr ns), .o true [.int a', .int b', .int c'], .p (.lst (us.map D.str))]) :
    RS (m__law_name [.p (.scr ns), .o true [.int a, .int b, .int c], .p (.lst (us.map D.str))]) P := by
  have signs_ok : SOk 36 (("abcdefghijklmnopqrstuvwxyz" : Str) ++ ("0123456789" : Str)) := letters_ok.append digits_ok
  refine rs_fn rfl ?_
  show Tr (b__law_name [some (.p (.scr ns)), some (.o true [.int a, .int b, .int c]), some (.p (.lst (us.map D.str))), none, none, none, none, none]) _
  unfold b__law_name
  repeat fail
  refine tr_draw rfl ha hc (lim_ok (by decide) (by decide)) fun v a b c h1 h2 ha hc => ?_
  dsimp only [List.set]
  repeat fail
  refine tr_ixStr (by decide +kernel) h1 (by show v < 26; exact h2) fun ch hch => ?_
  have hn : NmW 1 ⟨#[ch]⟩ := ⟨nm_sign hch, letters_ok.sign hch⟩
  generalize (⟨#[ch]⟩ : Str) = nm at hn ⊢
  repeat fail
  refine tr_draw rfl ha hc (lim_ok (by decide) (by decide)) fun v2 a b c h3 h4 ha hc => ?_
  dsimp only [List.set]
  repeat fail
  refine tr_rng (by omega) (by omega) ?_
  have hk : ∀ x : Option Dv, okSlot [x] 0 = true → ∀ (ρ : Fl.Env), True := fun _ _ _ => trivial
  refine (forL_inv (P := fun fl ρ1 => ∃ (nm : Str) (a b c : Int) (x : Option Dv), fl = .nx ∧ NmW 4 nm ∧ 0 ≤ a ∧ (0 ≤ c ∧ c < 2147483648) ∧ okSlot [x] 0 = true ∧ ρ1 = [some (.p (.scr ns)), some (.o true [.int a, .int b, .int c]), some (.p (.lst (us.map D.str))), some (.p (.str "abcdefghijklmnopqrstuvwxyz")), some (.p (.str ("abcdefghijklmnopqrstuvwxyz" ++ "0123456789"))), some (.p (.str nm)), x, none])
    (fun i ρ1 => ∃ (nm : Str) (a b c : Int) (x : Option Dv), NmW (1 + i) nm ∧ i ≤ 3 ∧ 0 ≤ a ∧ (0 ≤ c ∧ c < 2147483648) ∧ okSlot [x] 0 = true ∧ ρ1 = [some (.p (.scr ns)), some (.o true [.int a, .int b, .int c]), some (.p (.lst (us.map D.str))), some (.p (.str "abcdefghijklmnopqrstuvwxyz")), some (.p (.str ("abcdefghijklmnopqrstuvwxyz" ++ "0123456789"))), some (.p (.str nm)), x, none]) _ 0 _ ⟨nm, a, b, c, none, hn, by omega, ha, hc, rfl, rfl⟩ ?_ ?_).mono ?_
  · rintro i d ρ1 hd ⟨nm, a, b, c, x, hn, hi3, ha, hc, hx, rfl⟩
    obtain ⟨rfl, hi⟩ := rng_get hd
    refine ⟨_, tgN_ok hx, ?_⟩
    dsimp only [List.set]
    repeat fail
    refine tr_draw rfl ha hc (lim_ok (by decide) (by decide)) fun v a b c h1 h2 ha hc => ?_
    dsimp only [List.set]
    repeat fail
    refine tr_ixStr (by decide +kernel) h1 (by show v < 36; exact h2) fun ch hch => ?_
    refine tr_addS hn.2 (signs_ok.sign hch) (by omega) fun hs => ?_
    have hs := hn.add (signs_ok.sign hch) (fun c hc => by rw [show c = ch from List.mem_singleton.mp hc]; exact sg_mem hch) (by omega)
    repeat fail
    exact ⟨_, _, _, _, _, by rw [show 1 + (0 + i + 1) = 1 + (0 + i) + 1 by omega]; exact hs, by omega, ha, hc, rfl, rfl⟩
  · rintro ρ1 ⟨nm, a, b, c, x, hn, _, ha, hc, hx, e⟩
    rw [rngF_len] at hn
    exact ⟨nm, a, b, c, x, rfl, hn.mono (by omega), ha, hc, hx, e⟩
  rintro _ _ ⟨nm, a, b, c, x, rfl, hn, ha, hc, hx, rfl⟩
  -- p0 ..
  refine tr_seqI (fun ρ1 => ∃ (nm : Str) (a b c : Int), NmW 4 nm ∧ 0 ≤ a ∧ (0 ≤ c ∧ c < 2147483648) ∧ ρ1 = [some (.p (.scr ns)), some (.o true [.int a, .int b, .int c]), some (.p (.lst (us.map D.str))), some (.p (.str "abcdefghijklmnopqrstuvwxyz")), some (.p (.str ("abcdefghijklmnopqrstuvwxyz" ++ "0123456789"))), some (.p (.str nm)), x, none]) ?_ ?_
  · repeat fail
    refine tr_draw rfl ha hc (lim_ok (by decide) (by decide)) fun v a b c h1 h2 ha hc => ?_
    dsimp only [List.set]
    repeat fail
    refine tr_ite (fun h1 => ?_) (fun h1 => ?_)
    · repeat fail
      refine tr_draw rfl ha hc (lim_ok (by decide) (by decide)) fun v a b c h1 h2 ha hc => ?_
      dsimp only [List.set]
      repeat fail
      refine tr_ixLst h1 (by show v < 6; exact h2) fun z hz => ?_
      have hz2 : ∃ s : Str, z = .str s ∧ NmW 4 s := by
        simp only [List.mem_cons, List.not_mem_nil, or_false] at hz
        rcases hz with rfl | rfl | rfl | rfl | rfl | rfl <;> exact ⟨_, rfl, by decide +kernel, by decide +kernel, by decide +kernel⟩
      obtain ⟨s, rfl, hs⟩ := hz2
      repeat fail
      exact ⟨_, _, _, _, hs, ha, hc, rfl⟩
    · exact ⟨_, _, _, _, hn, ha, hc, rfl⟩
  rintro _ ⟨nm, a, b, c, hn, ha, hc, rfl⟩
  repeat fail
  refine tr_rng (by show -(2 ^ 40) < ((us.map D.str).length : Int) + 1; simp only [List.length_map]; omega) (by show ((us.map D.str).length : Int) + 1 < 2 ^ 40; simp only [List.length_map]; omega) ?_
  refine (forL_inv (P := fun fl ρ1 => ∃ (nm1 : Str) (x : Option Dv), fl = .nx ∧ NmW 10 nm1 ∧ okSlot [x] 0 = true ∧ ρ1 = [some (.p (.scr ns)), some (.o true [.int a, .int b, .int c]), some (.p (.lst (us.map D.str))), some (.p (.str "abcdefghijklmnopqrstuvwxyz")), some (.p (.str ("abcdefghijklmnopqrstuvwxyz" ++ "0123456789"))), some (.p (.str nm1)), x, some (.p (.str nm))])
    (fun i ρ1 => ∃ (nm1 : Str) (x : Option Dv), NmW 10 nm1 ∧ okSlot [x] 0 = true ∧ ρ1 = [some (.p (.scr ns)), some (.o true [.int a, .int b, .int c]), some (.p (.lst (us.map D.str))), some (.p (.str "abcdefghijklmnopqrstuvwxyz")), some (.p (.str ("abcdefghijklmnopqrstuvwxyz" ++ "0123456789"))), some (.p (.str nm1)), x, some (.p (.str nm))]) _ 0 _ ⟨nm, x, hn.mono (by omega), hx, rfl⟩ ?_ ?_).mono ?_
  · rintro i d ρ1 hd ⟨nm1, x, hn1, hx, rfl⟩
    obtain ⟨rfl, hi⟩ := rng_get hd
    refine ⟨_, tgN_ok hx, ?_⟩
    dsimp only [List.set]
    simp only [List.length_map] at hi
    repeat fail
    have e1 : inF (.str nm1) (.lst (us.map D.str)) = some (.bl ((us.map D.str).any fun z => PyData.eqv z.py (.str nm1))) := by
      show (inB (.str nm1) (.lst (us.map D.str))).map D.bl = _
      rw [inB_lst hn1.2.2 (dats_strs 1 us hu)]; rfl
    refine tr_opt e1 ?_
    repeat fail
    refine tr_ite (fun h1 => ?_) (fun h1 => ?_)
    · repeat fail
      refine tr_opt (a := .str (toString (i : Int) : String)) (by
        show (if (i : Int).natAbs.log2 < 1920 then some (D.str (toString (i : Int) : String)) else none) = _
        have h3 : (i : Int).natAbs < 2 ^ 200 := by omega
        by_cases h0 : (i : Int).natAbs = 0
        · rw [h0]; rfl
        · have h4 := (Nat.log2_lt h0).mpr h3
          rw [if_pos (by omega)]) ?_
      repeat fail
      refine tr_addS hn.2 (str_small i (by omega)) (by omega) fun hs => ?_
      have hs := hn.add (str_small i (by omega)) (num_signs i) (by omega)
      repeat fail
      exact ⟨_, _, hs.mono (by omega), rfl, rfl⟩
    · exact ⟨_, _, hn1, rfl, rfl⟩
  · rintro ρ1 ⟨nm1, x, hn1, hx, e⟩
    exact ⟨nm1, x, rfl, hn1, hx, e⟩
  rintro _ _ ⟨nm1, x, rfl, hn1, hx, rfl⟩
  repeat fail
  exact h nm1 a b c hn1 ha hc

/-- a call of name() with the own list j of names lent -/
theorem tr_nameC {ns : List Int} {us : List Str} {ρ : Fl.Env} {j k : Nat} {io io2 : Bool} {s : List D} {P : Dv → Fl.Env → Prop} (hjk : j ≠ k) (e : ρ[j]? = some (some (.o io s))) (e2 : ρ[k]? = some (some (.o io2 (us.map D.str)))) (hs : SrcOk s) (hu : ∀ s ∈ us, PyData.strOk s = true) (hlen : us.length ≤ 900)
    (h : ∀ (x : Str) (s' : List D), NmW 10 x → SrcOk s' → P (.p (.str x)) (ρ.set j (some (.o io s')))) : Tr (callC m__law_name [.v (.scr ns), .r j, .b k] ρ) P := by
  obtain ⟨a, b, c, rfl, ha, hc⟩ := hs
  have e1 : argsOf ρ [.v (.scr ns), .r j, .b k] = some [.p (.scr ns), .o true [.int a, .int b, .int c], .p (.lst (us.map D.str))] := by
    unfold argsOf argsOf argsOf argsOf
    rw [e, e2]
    rfl
  have nd : nodupB (jsOf [.v (.scr ns), .r j, .b k]) = true := by
    show (!([k] : List Nat).contains j && (!([] : List Nat).contains k && true)) = true
    have : ([k] : List Nat).contains j = false := by simpa using hjk
    rw [this]; rfl
  refine tr_callL e1 nd (name3_rs ha hc hu hlen fun x a' b' c' h1 h2 h3 => ⟨⟨rfl, rfl⟩, ?_⟩)
  have e3 : updP (refsOf [.v (.scr ns), .r j, .b k] [.p (.scr ns), .o true [.int a', .int b', .int c'], .p (.lst (us.map D.str))]) ρ = ρ.set j (some (.o io [.int a', .int b', .int c'])) := by
    show ρ.set j (some (Dv.setIo (ioAt ρ j) (.o true [.int a', .int b', .int c']))) = _
    unfold ioAt
    rw [e]
    rfl
  rw [e3]
  exact h x _ h1 ⟨_, _, _, rfl, h2, h3⟩

end Lk
end

section
set_option Elab.async false
set_option linter.all false
set_option maxRecDepth 100000
set_option autoImplicit false
set_option maxHeartbeats 1000000
namespace Lk
open Fl PySem
local macro_rules | `(tactic| fail) => `(tactic| first
  | with_reducible first
    | refine tr_seqS ?_ | refine tr_op2 ?_ | refine tr_pure ?_ | refine tr_setM ?_ | refine tr_ifM ?_ | refine tr_boolM ?_ | refine tr_callB ?_ | refine tr_consM ?_ | refine tr_setIxM ?_ | refine tr_andM ?_ | refine tr_orM ?_ | refine tr_notM ?_ | refine tr_retM ?_
    | refine tr_frzM ?_ | refine tr_callM ?_ | refine tr_consR ?_ | refine tr_argV ?_ | refine tr_forM ?_ | refine tr_itM ?_ | refine tr_setO ?_ | refine tr_lstM ?_ | refine tr_tupM ?_ | refine tr_bind ?_
    | refine tr_splS ?_ | refine tr_setKM ?_ | refine tr_inKM ?_ | refine tr_getM ?_ | refine tr_catM ?_ | refine tr_joinM ?_ | refine tr_inQM ?_ | refine tr_landV ?_ | refine tr_landM ?_ | refine tr_lorM ?_ | refine tr_bM ?_ | refine tr_ownC ?_ | refine tr_retO ?_ | refine tr_exprM ?_ | refine tr_seqM ?_ | refine tr_qM ?_ | refine tr_qN ?_ | refine tr_isiM ?_ | refine tr_negM ?_ | refine tr_bitsM ?_ | refine tr_partM ?_ | refine tr_slM ?_ | refine tr_chainL ?_ | refine tr_iteT ?_ | refine tr_iteF ?_ | refine tr_iteNF ?_ | refine tr_iteNT ?_ | refine tr_parM ?_
    | refine tr_consN ?_ | refine tr_newM ?_ | refine tr_callN ?_ | refine tr_asgM ?_ | refine tr_lcM ?_
  | ((with_reducible refine' tr_var ?e ?k); (case e => exact rfl))
  | with_reducible refine tr_chainM ?_
  | ((with_reducible refine' tr_ixOM ?e ?k); (case e => exact rfl))
  | ((with_reducible refine' tr_ixKM ?e ?k); (case e => exact rfl))
  | ((with_reducible refine' tr_frzSk ?e ?k); (case e => exact rfl); dsimp only [List.set])
  | ((with_reducible refine' tr_frzS ?e ?k); (case e => exact rfl); dsimp only [List.set])
  | ((with_reducible refine' tr_retVk ?e ?k); (case e => exact rfl))
  | ((with_reducible refine' tr_argR ?e ?f ?k); (case e => exact rfl); (case f => exact rfl))
  | ((with_reducible refine' tr_argB ?e ?f ?k); (case e => exact rfl); (case f => exact rfl))
  | ((with_reducible refine' tr_appM ?e ?k); (case e => exact rfl))
  | ((with_reducible refine' tr_retV ?e ?k); (case e => exact rfl))
  | ((with_reducible refine' tr_ownM ?e ?k); (case e => exact rfl))
  | ((with_reducible refine' tr_opt ?e ?k); (case e => exact rfl))
  | with_reducible refine tr_mul (by first | exact .inl (.inr ⟨by decide, by decide⟩) | exact .inl (.inl ⟨by omega, by omega⟩)) ?_
  | with_reducible refine tr_mod (by first | decide | omega) ?_
  | with_reducible refine tr_fdiv (by first | decide | assumption) ?_
  | ((with_reducible refine' ⟨_, _, _, _, ?e, ?f, ?g, ?k⟩); (case e => exact rfl); (case f => exact rfl); (case g => exact rfl); dsimp only [List.set])
  | ((with_reducible refine' ⟨_, _, (?e : _ = some (some (Dv.o _ _))), ?k⟩); (case e => exact rfl))
  | ((with_reducible refine' ⟨?e, ?k⟩); (case e => (with_reducible show okSlot _ _ = true); exact rfl); dsimp only [List.set])
  | ((with_reducible refine' ⟨?e, ?k⟩); (case e => (with_reducible show isO _ _ = true); exact rfl))
  | ((with_reducible refine' ⟨?e, ?k⟩); (case e => (with_reducible show List.length _ ≤ sizeLine); exact le_sz rfl))
  | ((with_reducible refine' ⟨?e, ?k⟩); (case e => (with_reducible show noIo _ _ = true); exact rfl))
  | ((with_reducible refine' ⟨okAt ?h ?e, ?k⟩); (case e => exact rfl); (case h => assumption); dsimp only [List.set])
  | ((with_reducible refine' ⟨noIoAt ?h ?e, ?k⟩); (case e => exact rfl); (case h => assumption))
  | ((with_reducible refine' ⟨_, (?e : _ = some (some (Dv.p _))), ?k⟩); (case e => exact rfl))
  | ((with_reducible refine' ⟨?e, ?k⟩); (case e => (with_reducible show isK _ _ = true); exact rfl)))
open TL (tl)
def BigI (x : Int) : Prop := -(10 ^ 30) < x ∧ x < 10 ^ 30
theorem gain_rs {ns : List Int} {s : List D} {st : Int} {P : Dv → List Dv → Prop} (hs : SrcOk s)
    (h : ∀ (x : Int) (s' : List D), SrcOk s' → BigI x → (st = 0 → -6 ≤ x ∧ x ≤ 6) → P (.p (.int x)) [.p (.scr ns), .o true s', .p (.int st)]) :
    RS (m__law_gain [.p (.scr ns), .o true s, .p (.int st)]) P := by
  refine rs_fn rfl ?_
  show Tr (b__law_gain [some (.p (.scr ns)), some (.o true s), some (.p (.int st)), none]) _
  unfold b__law_gain
  repeat fail
  refine tr_ite (fun h1 => ?_) (fun h1 => ?_)
  · have h1 : st = 0 := of_decide_eq_true h1
    repeat fail
    refine tr_drawS rfl hs (by decide) (by decide) fun v s hv0 hv1 hs => ?_
    dsimp only [List.set]
    repeat fail
    exact h (v - 6) _ hs (by unfold BigI; omega) (fun _ => by omega)
  have h1 : ¬ st = 0 := of_decide_eq_false h1
  repeat fail
  refine tr_ite (fun h2 => ?_) (fun h2 => ?_)
  · repeat fail
    refine tr_drawS rfl hs (by decide) (by decide) fun v s hv0 hv1 hs => ?_
    dsimp only [List.set]
    repeat fail
    exact h (v - 1) _ hs (by unfold BigI; omega) (fun z => absurd z h1)
  repeat fail
  refine tr_drawS rfl hs (by decide) (by decide) fun v s hv0 hv1 hs => ?_
  dsimp only [List.set]
  repeat fail
  have hv1 : v < 10 ^ 9 := hv1
  refine tr_mul (i := v) (j := 10 ^ 20) (.inl (.inl ⟨by omega, by omega⟩)) ?_
  repeat fail
  refine tr_drawS rfl hs (by decide) (by decide) fun u s hu0 hu1 hs => ?_
  dsimp only [List.set]
  repeat fail
  have hu1 : u < 10 ^ 9 := hu1
  refine tr_drawS rfl hs (by decide) (by decide) fun z s hz0 hz1 hs => ?_
  dsimp only [List.set]
  repeat fail
  refine tr_ite (fun h3 => ?_) (fun h3 => ?_)
  · repeat fail
    exact h (-(v * 10 ^ 20 + u)) _ hs (by unfold BigI; omega) (fun z => absurd z h1)
  · repeat fail
    exact h (v * 10 ^ 20 + u) _ hs (by unfold BigI; omega) (fun z => absurd z h1)

end Lk
end

section
set_option Elab.async false
set_option linter.all false
set_option maxRecDepth 100000
set_option autoImplicit false
set_option maxHeartbeats 1000000
namespace Lk
open Fl PySem
local macro_rules | `(tactic| fail) => `(tactic| first
  | with_reducible first
    | refine tr_seqS ?_ | refine tr_op2 ?_ | refine tr_pure ?_ | refine tr_setM ?_ | refine tr_ifM ?_ | refine tr_boolM ?_ | refine tr_callB ?_ | refine tr_consM ?_ | refine tr_setIxM ?_ | refine tr_andM ?_ | refine tr_orM ?_ | refine tr_notM ?_ | refine tr_retM ?_
    | refine tr_frzM ?_ | refine tr_callM ?_ | refine tr_consR ?_ | refine tr_argV ?_ | refine tr_forM ?_ | refine tr_itM ?_ | refine tr_setO ?_ | refine tr_lstM ?_ | refine tr_tupM ?_ | refine tr_bind ?_
    | refine tr_splS ?_ | refine tr_setKM ?_ | refine tr_inKM ?_ | refine tr_getM ?_ | refine tr_catM ?_ | refine tr_joinM ?_ | refine tr_inQM ?_ | refine tr_landV ?_ | refine tr_landM ?_ | refine tr_lorM ?_ | refine tr_bM ?_ | refine tr_ownC ?_ | refine tr_retO ?_ | refine tr_exprM ?_ | refine tr_seqM ?_ | refine tr_qM ?_ | refine tr_qN ?_ | refine tr_isiM ?_ | refine tr_negM ?_ | refine tr_bitsM ?_ | refine tr_partM ?_ | refine tr_slM ?_ | refine tr_chainL ?_ | refine tr_iteT ?_ | refine tr_iteF ?_ | refine tr_iteNF ?_ | refine tr_iteNT ?_ | refine tr_parM ?_
    | refine tr_consN ?_ | refine tr_newM ?_ | refine tr_callN ?_ | refine tr_asgM ?_ | refine tr_lcM ?_
  | ((with_reducible refine' tr_var ?e ?k); (case e => exact rfl))
  | with_reducible refine tr_chainM ?_
  | ((with_reducible refine' tr_ixOM ?e ?k); (case e => exact rfl))
  | ((with_reducible refine' tr_ixKM ?e ?k); (case e => exact rfl))
  | ((with_reducible refine' tr_frzSk ?e ?k); (case e => exact rfl); dsimp only [List.set])
  | ((with_reducible refine' tr_frzS ?e ?k); (case e => exact rfl); dsimp only [List.set])
  | ((with_reducible refine' tr_retVk ?e ?k); (case e => exact rfl))
  | ((with_reducible refine' tr_argR ?e ?f ?k); (case e => exact rfl); (case f => exact rfl))
  | ((with_reducible refine' tr_argB ?e ?f ?k); (case e => exact rfl); (case f => exact rfl))
  | ((with_reducible refine' tr_appM ?e ?k); (case e => exact rfl))
  | ((with_reducible refine' tr_retV ?e ?k); (case e => exact rfl))
  | ((with_reducible refine' tr_ownM ?e ?k); (case e => exact rfl))
  | ((with_reducible refine' tr_opt ?e ?k); (case e => exact rfl))
  | with_reducible refine tr_mul (by first | exact .inl (.inr ⟨by decide, by decide⟩) | exact .inl (.inl ⟨by omega, by omega⟩)) ?_
  | with_reducible refine tr_mod (by first | decide | omega) ?_
  | with_reducible refine tr_fdiv (by first | decide | assumption) ?_
  | ((with_reducible refine' ⟨_, _, _, _, ?e, ?f, ?g, ?k⟩); (case e => exact rfl); (case f => exact rfl); (case g => exact rfl); dsimp only [List.set])
  | ((with_reducible refine' ⟨_, _, (?e : _ = some (some (Dv.o _ _))), ?k⟩); (case e => exact rfl))
  | ((with_reducible refine' ⟨?e, ?k⟩); (case e => (with_reducible show okSlot _ _ = true); exact rfl); dsimp only [List.set])
  | ((with_reducible refine' ⟨?e, ?k⟩); (case e => (with_reducible show isO _ _ = true); exact rfl))
  | ((with_reducible refine' ⟨?e, ?k⟩); (case e => (with_reducible show List.length _ ≤ sizeLine); exact le_sz rfl))
  | ((with_reducible refine' ⟨?e, ?k⟩); (case e => (with_reducible show noIo _ _ = true); exact rfl))
  | ((with_reducible refine' ⟨okAt ?h ?e, ?k⟩); (case e => exact rfl); (case h => assumption); dsimp only [List.set])
  | ((with_reducible refine' ⟨noIoAt ?h ?e, ?k⟩); (case e => exact rfl); (case h => assumption))
  | ((with_reducible refine' ⟨_, (?e : _ = some (some (Dv.p _))), ?k⟩); (case e => exact rfl))
  | ((with_reducible refine' ⟨?e, ?k⟩); (case e => (with_reducible show isK _ _ = true); exact rfl)))
open TL (tl)
structure FrOk (p : Int × Int) : Prop where
  t : -6 ≤ p.1 ∧ p.1 ≤ 6
  b : 1 ≤ p.2 ∧ p.2 ≤ 30
  g : Nat.gcd p.1.natAbs p.2.natAbs = 1
theorem div_le6 {t g : Int} (hg : 0 < g) (h : -6 ≤ t ∧ t ≤ 6) : -6 ≤ t / g ∧ t / g ≤ 6 := by
  have h1 : g * (t / g) + t % g = t := by rw [Int.mul_comm]; exact Int.ediv_mul_add_emod t g
  have h2 := Int.emod_nonneg t (show g ≠ 0 by omega)
  have h3 := Int.emod_lt_of_pos t hg
  constructor
  · rw [Int.le_ediv_iff_mul_le hg]
    have : (-6 : Int) * g ≤ -6 := by omega
    omega
  · have h4 : t / g < 7 := by
      rw [Int.ediv_lt_iff_lt_mul hg]
      omega
    omega
theorem fraction_rs {t b : Int} {P : Dv → List Dv → Prop} (ht : -6 ≤ t ∧ t ≤ 6) (hb : 1 ≤ b ∧ b ≤ 30) (h : ∀ p : Int × Int, FrOk p → P (.p (pairD p.1 p.2)) [.p (.int t), .p (.int b)]) : RS (m__law_fraction [.p (.int t), .p (.int b)]) P := by
  refine rs_fn rfl ?_
  show Tr (b__law_fraction [some (.p (.int t)), some (.p (.int b)), none]) _
  unfold b__law_fraction
  repeat fail
  refine tr_iteD (decide_eq_false (by omega)) ?_
  repeat fail
  refine tr_gcd (by split <;> omega) (by omega) (by omega) ?_
  have e3 : Int.gcd (if t < 0 then -t else t) b = Int.gcd t b := by
    unfold Int.gcd
    split
    · rw [Int.natAbs_neg]
    · rfl
  rw [e3]
  have hp : 0 < Int.gcd t b := Nat.gcd_pos_of_pos_right _ (by omega)
  have hl : Int.gcd t b ≤ b.natAbs := Nat.gcd_le_right _ (by omega)
  have hl2 : ((Int.gcd t b : Nat) : Int).natAbs.log2 < 9000 := by
    rw [Int.natAbs_natCast]
    have := Nat.log2_lt (n := Int.gcd t b) (k := 9000) (by omega)
    exact this.mpr (Nat.lt_of_lt_of_le (by omega : Int.gcd t b < 2 ^ 5) (Nat.pow_le_pow_right (by omega) (by omega)))
  repeat fail
  refine tr_fdiv ⟨by omega, hl2⟩ ?_
  repeat fail
  refine tr_fdiv ⟨by omega, hl2⟩ ?_
  repeat fail
  have hd : ((Int.gcd t b : Nat) : Int) ∣ b := Int.gcd_dvd_right ..
  refine h (t / (Int.gcd t b : Nat), b / (Int.gcd t b : Nat)) ⟨div_le6 (by omega) ht, ⟨?_, ?_⟩, ?_⟩
  · have := Int.ediv_mul_cancel hd
    by_cases hz : b / ((Int.gcd t b : Nat) : Int) ≤ 0
    · have h5 : b / ((Int.gcd t b : Nat) : Int) = 0 := by
        have := Int.ediv_nonneg (show 0 ≤ b by omega) (show 0 ≤ ((Int.gcd t b : Nat) : Int) by omega)
        omega
      rw [h5] at this
      omega
    · show 1 ≤ b / ((Int.gcd t b : Nat) : Int)
      omega
  · have := Int.ediv_le_self ((Int.gcd t b : Nat) : Int) (show 0 ≤ b by omega)
    show b / ((Int.gcd t b : Nat) : Int) ≤ 30
    omega
  · have := Int.gcd_ediv_gcd_ediv_gcd hp
    exact this
/-! ### lots -/
structure LotOk (ws : List Int) : Prop where
  l : 1 ≤ ws.length ∧ ws.length ≤ 8
  b : ∀ w ∈ ws, 0 ≤ w ∧ w ≤ 4
  z : ∃ w ∈ ws, w ≠ 0
theorem appI2 (rs : List Int) (r : Int) : rs.map D.int ++ [D.int r] = (rs ++ [r]).map D.int := by rw [List.map_append]; rfl
structure LotSt where
  s : List D
  ws : List Int
  k : Option Dv
  w : Option Dv
theorem sum_pos : ∀ ws : List Int, ws.sum ≠ 0 → ∃ w ∈ ws, w ≠ 0
  | [], h => absurd rfl h
  | w :: r, h => by
    by_cases hw : w = 0
    · rw [List.sum_cons, hw, Int.zero_add] at h
      obtain ⟨x, h1, h2⟩ := sum_pos r h
      exact ⟨x, List.mem_cons_of_mem _ h1, h2⟩
    · exact ⟨w, List.mem_cons_self .., hw⟩
theorem lot_rs {ns : List Int} {s : List D} {c : Int} {P : Dv → List Dv → Prop} (hs : SrcOk s) (hc : 1 ≤ c ∧ c ≤ 8)
    (h : ∀ (ws : List Int) (s' : List D), SrcOk s' → LotOk ws → P (.p (.tup (ws.map D.int))) [.p (.scr ns), .o true s', .p (.int c)]) :
    RS (m__law_lot [.p (.scr ns), .o true s, .p (.int c)]) P := by
  refine rs_fn rfl ?_
  show Tr (b__law_lot [some (.p (.scr ns)), some (.o true s), some (.p (.int c)), none, none, none, none]) _
  unfold b__law_lot
  repeat fail
  refine tr_drawS rfl hs (by decide) (by decide) fun st s hst0 hst1 hs => ?_
  dsimp only [List.set]
  repeat fail
  refine tr_rng (by omega) (by omega) ?_
  refine tr_forN (σ := LotSt) (fun t => [some (.p (.scr ns)), some (.o true t.s), some (.p (.int c)), some (.p (.int st)), (some (.o false (t.ws.map D.int))), t.k, t.w])
    (fun i t => SrcOk t.s ∧ t.ws.length = i ∧ (∀ w ∈ t.ws, 0 ≤ w ∧ w ≤ 4) ∧ OkS t.k ∧ OkS t.w) ⟨s, [], none, none⟩ _ ⟨hs, rfl, fun _ h => absurd h (by simp), .n, .n⟩ rfl ?_ ?_
  · rintro i ⟨s, ws, k, w⟩ hi ⟨hs, hl, hw, hk, hw2⟩
    dsimp only at hs hl hw hk hw2
    refine ⟨_, tgN_ok (okAt hk rfl), ?_⟩
    dsimp only [List.set]
    repeat fail
    refine tr_drawS rfl hs (by decide) (by decide) fun v s hv0 hv1 hs => ?_
    dsimp only [List.set]
    repeat fail
    have fin : ∀ u : Int, 0 ≤ u ∧ u ≤ 4 → ws.map D.int ++ [D.int u] = (ws ++ [u]).map D.int ∧ (ws ++ [u]).length = i + 1 ∧ ∀ w ∈ ws ++ [u], 0 ≤ w ∧ w ≤ 4 := fun u hu => ⟨appI2 .., by rw [List.length_append, hl]; rfl, fun w hm => by
      rcases List.mem_append.mp hm with z | z
      · exact hw w z
      · rw [List.mem_singleton.mp z]; exact hu⟩
    have fin2 : ∀ u : Int, 0 ≤ u ∧ u ≤ 4 → (ws.map D.int).length < sizeLine ∧ ∃ t : LotSt, [some (.p (.scr ns)), some (.o true s), some (.p (.int c)), some (.p (.int st)), (some (.o false (ws.map D.int ++ [D.int u]))), (some (.p (.int i))), (some (.p (.int u)))] = [some (.p (.scr ns)), some (.o true t.s), some (.p (.int c)), some (.p (.int st)), (some (.o false (t.ws.map D.int))), t.k, t.w] ∧ SrcOk t.s ∧ t.ws.length = i + 1 ∧ (∀ w ∈ t.ws, 0 ≤ w ∧ w ≤ 4) ∧ OkS t.k ∧ OkS t.w := fun u hu => by
      refine ⟨by rw [List.length_map, hl]; show i < 2 ^ 24; omega, ⟨s, ws ++ [u], some (.p (.int i)), some (.p (.int u))⟩, ?_, hs, (fin u hu).2.1, (fin u hu).2.2, .p, .p⟩
      rw [(fin u hu).1]
    refine tr_ite (fun h1 => ?_) (fun h1 => ?_)
    · refine tr_ite (fun h2 => ?_) (fun h2 => ?_)
      · repeat fail
        exact fin2 0 (by omega)
      · repeat fail
        exact fin2 v (by omega)
    · repeat fail
      exact fin2 v (by omega)
  clear hs
  rintro ⟨s, ws, k, w⟩ ⟨hs, hl, hw, hk, hw2⟩
  dsimp only at hs hl hw hk hw2 ⊢
  have hsum : sumQ .l (ws.map D.int) = some (.int ws.sum) := by
    show (intsOf (ws.map D.int)).map (fun ns => D.int ns.sum) = _
    rw [intsOf_ints]; rfl
  have hnew : Tr (lcL [5] (tgN 5) (pureM true) (pureM (D.int 0)) (rngF 0 c) [] [some (.p (.scr ns)), some (.o true s), some (.p (.int c)), some (.p (.int st)), (some (.o false (ws.map D.int))), none, w]) fun acc ρ1 => acc = (List.replicate c.toNat (0 : Int)).map D.int ∧ ρ1 = [some (.p (.scr ns)), some (.o true s), some (.p (.int c)), some (.p (.int st)), (some (.o false (ws.map D.int))), none, w] := by
    refine tr_lcN (σ := Unit) (fun _ => [some (.p (.scr ns)), some (.o true s), some (.p (.int c)), some (.p (.int st)), (some (.o false (ws.map D.int))), none, w]) (fun i acc _ => acc = (List.replicate i (0 : Int)).map D.int) () _ rfl rfl ?_ ?_
    · rintro i acc _ hi rfl
      refine ⟨_, tgN_ok rfl, ?_⟩
      dsimp only [List.set]
      repeat fail
      refine ⟨by rw [List.length_map, List.length_replicate]; show i < 2 ^ 24; omega, ?_⟩
      repeat fail
      refine ⟨(), rfl, ?_⟩
      rw [List.replicate_succ', List.map_append]
      rfl
    · rintro acc _ rfl
      exact ⟨rfl, rfl⟩
  have fin3 : ∀ (v : Int) (s : List D), SrcOk s → 0 ≤ v → v < c → P (.p (.tup (((List.replicate c.toNat (0 : Int)).set v.toNat 1).map D.int))) [.p (.scr ns), .o true s, .p (.int c)] := fun v s hs h0 h1 => by
    refine h _ s hs ⟨by rw [List.length_set, List.length_replicate]; omega, fun w hw => ?_, 1, ?_, by decide⟩
    · rcases List.mem_or_eq_of_mem_set hw with z | rfl
      · rw [(List.mem_replicate.mp z).2]; omega
      · omega
    · exact List.mem_set (by rw [List.length_replicate]; omega) _
  have hset : ∀ v : Int, ((List.replicate c.toNat (0 : Int)).map D.int).set v.toNat (D.int 1) = ((List.replicate c.toNat (0 : Int)).set v.toNat 1).map D.int := fun v => by rw [List.map_set]
  repeat fail
  refine tr_ite (fun h1 => ?_) (fun h1 => ?_)
  · repeat fail
    refine tr_rng (by omega) (by omega) ?_
    refine ⟨noIoAt hk rfl, ?_⟩
    refine hnew.mono ?_
    rintro acc _ ⟨rfl, rfl⟩
    repeat fail
    refine tr_drawS rfl hs (by omega) (by omega) fun v s hv0 hv1 hs => ?_
    dsimp only [List.set]
    repeat fail
    refine ⟨_, _, v, v.toNat, rfl, rfl, by rw [List.length_map, List.length_replicate]; unfold L2.ixN; rw [if_pos hv0, if_pos (by omega)], ?_⟩
    rw [hset v]
    repeat fail
    exact fin3 v s hs hv0 hv1
  · repeat fail
    refine tr_opt hsum ?_
    repeat fail
    refine tr_ite (fun h2 => ?_) (fun h2 => ?_)
    · repeat fail
      refine tr_rng (by omega) (by omega) ?_
      refine ⟨noIoAt hk rfl, ?_⟩
      refine hnew.mono ?_
      rintro acc _ ⟨rfl, rfl⟩
      repeat fail
      refine tr_drawS rfl hs (by omega) (by omega) fun v s hv0 hv1 hs => ?_
      dsimp only [List.set]
      repeat fail
      refine ⟨_, _, v, v.toNat, rfl, rfl, by rw [List.length_map, List.length_replicate]; unfold L2.ixN; rw [if_pos hv0, if_pos (by omega)], ?_⟩
      rw [hset v]
      repeat fail
      exact fin3 v s hs hv0 hv1
    · have h2 : ws.sum ≠ 0 := of_decide_eq_false h2
      repeat fail
      exact h ws s hs ⟨by omega, hw, sum_pos ws h2⟩

end Lk
end

section
set_option Elab.async false
set_option linter.all false
set_option maxRecDepth 100000
set_option autoImplicit false
set_option maxHeartbeats 1000000
namespace Lk
open Fl PySem
local macro_rules | `(tactic| fail) => `(tactic| first
  | with_reducible first
    | refine tr_seqS ?_ | refine tr_op2 ?_ | refine tr_pure ?_ | refine tr_setM ?_ | refine tr_ifM ?_ | refine tr_boolM ?_ | refine tr_callB ?_ | refine tr_consM ?_ | refine tr_setIxM ?_ | refine tr_andM ?_ | refine tr_orM ?_ | refine tr_notM ?_ | refine tr_retM ?_
    | refine tr_frzM ?_ | refine tr_callM ?_ | refine tr_consR ?_ | refine tr_argV ?_ | refine tr_forM ?_ | refine tr_itM ?_ | refine tr_setO ?_ | refine tr_lstM ?_ | refine tr_tupM ?_ | refine tr_bind ?_
    | refine tr_splS ?_ | refine tr_setKM ?_ | refine tr_inKM ?_ | refine tr_getM ?_ | refine tr_catM ?_ | refine tr_joinM ?_ | refine tr_inQM ?_ | refine tr_landV ?_ | refine tr_landM ?_ | refine tr_lorM ?_ | refine tr_bM ?_ | refine tr_ownC ?_ | refine tr_retO ?_ | refine tr_exprM ?_ | refine tr_seqM ?_ | refine tr_qM ?_ | refine tr_qN ?_ | refine tr_isiM ?_ | refine tr_negM ?_ | refine tr_bitsM ?_ | refine tr_partM ?_ | refine tr_slM ?_ | refine tr_chainL ?_ | refine tr_iteT ?_ | refine tr_iteF ?_ | refine tr_iteNF ?_ | refine tr_iteNT ?_ | refine tr_parM ?_
    | refine tr_consN ?_ | refine tr_newM ?_ | refine tr_callN ?_ | refine tr_asgM ?_ | refine tr_lcM ?_
  | ((with_reducible refine' tr_var ?e ?k); (case e => exact rfl))
  | with_reducible refine tr_chainM ?_
  | ((with_reducible refine' tr_ixOM ?e ?k); (case e => exact rfl))
  | ((with_reducible refine' tr_ixKM ?e ?k); (case e => exact rfl))
  | ((with_reducible refine' tr_frzSk ?e ?k); (case e => exact rfl); dsimp only [List.set])
  | ((with_reducible refine' tr_frzS ?e ?k); (case e => exact rfl); dsimp only [List.set])
  | ((with_reducible refine' tr_retVk ?e ?k); (case e => exact rfl))
  | ((with_reducible refine' tr_argR ?e ?f ?k); (case e => exact rfl); (case f => exact rfl))
  | ((with_reducible refine' tr_argB ?e ?f ?k); (case e => exact rfl); (case f => exact rfl))
  | ((with_reducible refine' tr_appM ?e ?k); (case e => exact rfl))
  | ((with_reducible refine' tr_retV ?e ?k); (case e => exact rfl))
  | ((with_reducible refine' tr_ownM ?e ?k); (case e => exact rfl))
  | ((with_reducible refine' tr_opt ?e ?k); (case e => exact rfl))
  | with_reducible refine tr_mul (by first | exact .inl (.inr ⟨by decide, by decide⟩) | exact .inl (.inl ⟨by omega, by omega⟩)) ?_
  | with_reducible refine tr_mod (by first | decide | omega) ?_
  | with_reducible refine tr_fdiv (by first | decide | assumption) ?_
  | ((with_reducible refine' ⟨_, _, _, _, ?e, ?f, ?g, ?k⟩); (case e => exact rfl); (case f => exact rfl); (case g => exact rfl); dsimp only [List.set])
  | ((with_reducible refine' ⟨_, _, (?e : _ = some (some (Dv.o _ _))), ?k⟩); (case e => exact rfl))
  | ((with_reducible refine' ⟨?e, ?k⟩); (case e => (with_reducible show okSlot _ _ = true); exact rfl); dsimp only [List.set])
  | ((with_reducible refine' ⟨?e, ?k⟩); (case e => (with_reducible show isO _ _ = true); exact rfl))
  | ((with_reducible refine' ⟨?e, ?k⟩); (case e => (with_reducible show List.length _ ≤ sizeLine); exact le_sz rfl))
  | ((with_reducible refine' ⟨?e, ?k⟩); (case e => (with_reducible show noIo _ _ = true); exact rfl))
  | ((with_reducible refine' ⟨okAt ?h ?e, ?k⟩); (case e => exact rfl); (case h => assumption); dsimp only [List.set])
  | ((with_reducible refine' ⟨noIoAt ?h ?e, ?k⟩); (case e => exact rfl); (case h => assumption))
  | ((with_reducible refine' ⟨_, (?e : _ = some (some (Dv.p _))), ?k⟩); (case e => exact rfl))
  | ((with_reducible refine' ⟨?e, ?k⟩); (case e => (with_reducible show isK _ _ = true); exact rfl)))
open TL (tl)
/-! ### numbers written and read -/
def strI (x : Int) : Str := (toString x : String)
theorem tl_strI_pos {x : Int} (h : 0 ≤ x) : tl (strI x) = TL.numL x.toNat := by
  have e : x = ((x.toNat : Nat) : Int) := by omega
  have := TL.tl_num x.toNat
  rw [← e] at this
  exact this
theorem tl_strI_neg {x : Int} (h : x < 0) : tl (strI x) = 45 :: TL.numL x.natAbs := by
  obtain ⟨m, rfl⟩ : ∃ m : Nat, x = Int.negSucc m := ⟨x.natAbs - 1, by omega⟩
  have e : (toString (Int.negSucc m) : String) = "-" ++ toString (m + 1) := rfl
  unfold strI
  show tl (Str.ofString (toString (Int.negSucc m))) = _
  rw [e, TL.tl_ofString, String.toList_append, List.map_append]
  have e2 : (toString (m + 1) : String).toList.map Char.toNat = TL.numL (m + 1) := by
    have := TL.tl_num (m + 1)
    rw [TL.tl_ofString] at this
    exact this
  rw [e2]
  rfl
theorem numL_head : ∀ n : Nat, 1 ≤ n → (TL.numL n).head? ≠ some 48 := by
  intro n
  induction n using Nat.strongRecOn with
  | _ n ih =>
    intro h1
    by_cases h : n < 10
    · rw [TL.numL_lt h]
      simp
      omega
    · rw [TL.numL_step (by omega)]
      have := ih (n / 10) (by omega) (by omega)
      have hne := TL.numL_ne (n / 10)
      cases e : TL.numL (n / 10) with
      | nil => exact absurd e hne
      | cons c r => rw [e] at this; simpa using this
theorem numL_dg (n : Nat) : (TL.numL n).all isDg = true := by
  rw [List.all_eq_true]
  intro c hc
  have := TL.numL_digits n c hc
  unfold isDg
  rw [decide_eq_true this.1, decide_eq_true this.2]; rfl
theorem numV_numL {n : Nat} (h : n < 10 ^ 40) : numV (TL.numL n) = some (n : Int) := by
  rw [numV_some ⟨?_, TL.numL_len (by omega) h⟩ (numL_dg n) ?_, TL.numL_val]
  · have := TL.numL_ne n
    cases e : TL.numL n with
    | nil => exact absurd e this
    | cons c r => simp
  · rintro ⟨h1, h2⟩
    by_cases hn : n < 10
    · rw [TL.numL_lt hn] at h2; simp at h2
    · exact numL_head n (by omega) h1
theorem head_numL (n : Nat) : ¬ (TL.numL n).head? = some 45 := by
  intro h
  cases e : TL.numL n with
  | nil => rw [e] at h; cases h
  | cons c r =>
    rw [e] at h
    have hc : c = 45 := by simpa using h
    have := TL.numL_digits n c (by rw [e]; exact List.mem_cons_self ..)
    omega
theorem intV_strI {x : Int} (h : BigI x) : intV (tl (strI x)) = some x := by
  unfold BigI at h
  by_cases hx : 0 ≤ x
  · rw [tl_strI_pos hx, intV_n (head_numL _), numV_numL (by omega)]
    congr 1
    omega
  · rw [tl_strI_neg (by omega), intV_m rfl]
    show (numV (TL.numL x.natAbs)).bind _ = _
    rw [numV_numL (by omega)]
    show (if ((x.natAbs : Nat) : Int) = 0 then none else some (-((x.natAbs : Nat) : Int))) = _
    rw [if_neg (by omega)]
    congr 1
    omega
theorem numV_strI {x : Int} (h0 : 0 ≤ x) (h : x < 10 ^ 30) : numV (tl (strI x)) = some x := by
  rw [tl_strI_pos h0, numV_numL (by omega)]
  congr 1
  omega
theorem strI_sg {x : Int} : ∀ c ∈ tl (strI x), c = 45 ∨ (48 ≤ c ∧ c ≤ 57) := by
  intro c hc
  by_cases hx : 0 ≤ x
  · rw [tl_strI_pos hx] at hc
    exact .inr (TL.numL_digits _ c hc)
  · rw [tl_strI_neg (by omega)] at hc
    rcases List.mem_cons.mp hc with h | h
    · exact .inl h
    · exact .inr (TL.numL_digits _ c h)
theorem strI_ok {x : Int} (h : BigI x) : SOk 31 (strI x) := by
  unfold BigI at h
  refine ⟨?_, ?_⟩
  · rw [TL.len_tl]
    by_cases hx : 0 ≤ x
    · rw [tl_strI_pos hx]
      have := TL.numL_len (n := x.toNat) (k := 30) (by omega) (by omega)
      omega
    · rw [tl_strI_neg (by omega), List.length_cons]
      have := TL.numL_len (n := x.natAbs) (k := 30) (by omega) (by omega)
      omega
  · unfold PyData.strOk
    rw [← Array.all_toList, List.all_eq_true]
    intro c hc
    have := strI_sg c hc
    exact decide_eq_true (by omega)
theorem str_int {x : Int} (h : BigI x) : f1 strF1 [.int x] = some (.str (strI x)) := by
  unfold BigI at h
  show (if x.natAbs.log2 < 1920 then some (D.str (toString x : String)) else none) = _
  have h3 : x.natAbs < 2 ^ 200 := by omega
  by_cases h0 : x.natAbs = 0
  · rw [h0]; rfl
  · have h4 := (Nat.log2_lt h0).mpr h3
    rw [if_pos (by omega)]
    rfl
/-! ### joined and split -/
def joinS (c : Nat) (ss : List Str) : Str := mkS (TL.joinL [c] (ss.map tl))
theorem join_is {c : Nat} {y : Str} (hy : y = mkS [c]) (ss : List Str) : Txt.join y ss = joinS c ss := by
  subst hy
  refine TL.ext_tl ?_
  rw [TL.join_eq, TL.tl_join]
  rfl
theorem joinL_len (c : Nat) : ∀ L : List (List Nat), (TL.joinL [c] L).length ≤ (L.map fun l => l.length + 1).sum
  | [] => by simp [TL.joinL]
  | [p] => by simp [TL.joinL]
  | p :: q :: r => by
    have := joinL_len c (q :: r)
    show (p ++ ([c] ++ TL.joinL [c] (q :: r))).length ≤ _
    rw [List.length_append, List.length_append, List.length_singleton, List.map_cons, List.sum_cons]
    omega
theorem joinL_mem (c : Nat) : ∀ L : List (List Nat), ∀ x ∈ TL.joinL [c] L, x = c ∨ ∃ l ∈ L, x ∈ l
  | [], x, h => by cases h
  | [p], x, h => .inr ⟨p, List.mem_singleton.mpr rfl, h⟩
  | p :: q :: r, x, h => by
    have h : x ∈ p ++ ([c] ++ TL.joinL [c] (q :: r)) := h
    rcases List.mem_append.mp h with h | h
    · exact .inr ⟨p, List.mem_cons_self .., h⟩
    rcases List.mem_append.mp h with h | h
    · exact .inl (List.mem_singleton.mp h)
    rcases joinL_mem c (q :: r) x h with h | ⟨l, h1, h2⟩
    · exact .inl h
    · exact .inr ⟨l, List.mem_cons_of_mem _ h1, h2⟩
theorem sum_le {α : Type} {f : α → Nat} {m : Nat} : ∀ {L : List α}, (∀ l ∈ L, f l ≤ m) → (L.map f).sum ≤ L.length * m
  | [], _ => by simp
  | l :: L, h => by
    have h1 := h l (List.mem_cons_self ..)
    have h2 := sum_le (L := L) fun x hx => h x (List.mem_cons_of_mem _ hx)
    rw [List.map_cons, List.sum_cons, List.length_cons, Nat.add_mul]
    omega
theorem joinS_ok {c m k : Nat} {ss : List Str} (hc : c < 1000) (h : ∀ s ∈ ss, SOk m s) (hl : ss.length ≤ k) : SOk (k * (m + 1)) (joinS c ss) := by
  refine ⟨?_, ?_⟩
  · rw [TL.len_tl]
    show (TL.joinL [c] (ss.map tl)).length ≤ _
    refine Nat.le_trans (joinL_len c _) ?_
    rw [List.map_map]
    have h1 : (ss.map ((fun l : List Nat => l.length + 1) ∘ tl)).sum ≤ ss.length * (m + 1) := sum_le (f := (fun l : List Nat => l.length + 1) ∘ tl) fun s hs => by
      have := (okS_iff.mp (h s hs)).1
      show (tl s).length + 1 ≤ m + 1
      omega
    exact Nat.le_trans h1 (Nat.mul_le_mul_right _ hl)
  · unfold PyData.strOk
    rw [← Array.all_toList, List.all_eq_true]
    intro x hx
    rcases joinL_mem c _ x hx with h1 | ⟨l, h1, h2⟩
    · exact decide_eq_true (by omega)
    · obtain ⟨s, hs, rfl⟩ := List.mem_map.mp h1
      have := (h s hs).2
      unfold PyData.strOk at this
      rw [← Array.all_toList, List.all_eq_true] at this
      exact this x h2
theorem spS_join {c : Nat} {ss : List Str} (hne : ss ≠ []) (h : ∀ s ∈ ss, c ∉ tl s) : spS c (joinS c ss) = ss := by
  unfold spS joinS
  rw [tl_mkS, TL.spl_join (by simpa using hne) (by
    intro p hp
    obtain ⟨s, hs, rfl⟩ := List.mem_map.mp hp
    exact h s hs), List.map_map]
  have : mkS ∘ tl = id := funext mkS_tl
  rw [this, List.map_id]
theorem joinF_is {c m : Nat} {y : Str} {ss : List Str} (hy : y = mkS [c]) (h : ∀ s ∈ ss, SOk m s) (hl : ss.length ≤ 1000) (hm : m ≤ 10000) (k : SK) : joinF (.str y) (k, ss.map D.str) = some (.str (joinS c ss)) := by
  unfold joinF
  dsimp only
  rw [strsOf_strs]
  dsimp only
  rw [if_pos, join_is hy]
  have h1 : (ss.map (·.length)).sum ≤ ss.length * 10000 := sum_le (f := fun s : Str => s.length) fun s hs => by have := (h s hs).1; omega
  have h2 : y.length = 1 := by subst hy; rfl
  rw [h2]
  omega
/-! ### a line of gains -/
def partsG (q : Str × Int × Int) : List Str := ["gain", q.1, strI q.2.1, strI q.2.2]
def lineG (q : Str × Int × Int) : Str := joinS 32 (partsG q)
structure GainOk (q : Str × Int × Int) : Prop where
  n : isNm q.1 = true
  s : SOk 12 q.1
  a : BigI q.2.1
  b : BigI q.2.2
theorem isNm_sg {s : Str} (h : isNm s = true) : ∀ c ∈ tl s, Sg c := by
  intro c hc
  unfold isNm at h
  have h : isNmL (tl s) = true := h
  revert h hc
  cases tl s with
  | nil => intro h; cases h
  | cons d r =>
    intro hc h
    unfold isNmL at h
    dsimp only at h
    rw [Bool.and_eq_true, Bool.and_eq_true] at h
    have := List.all_eq_true.mp h.2.2 c hc
    rw [Bool.or_eq_true] at this
    rcases this with z | z
    · exact .inl (of_decide_eq_true z)
    · exact .inr (of_decide_eq_true z)
theorem LTR_lo : ∀ c ∈ LTR, 48 ≤ c := by decide +kernel
theorem Sg.lo {c : Nat} (h : Sg c) : 48 ≤ c := by
  rcases h with h | h
  · exact LTR_lo c h
  · have := decide_eq_true h
    rw [mem_DGT] at this
    unfold isDg at this
    rw [Bool.and_eq_true] at this
    exact of_decide_eq_true this.1
theorem gainw : SOk 4 ("gain" : Str) ∧ (∀ c ∈ tl ("gain" : Str), 97 ≤ c) := by constructor; exact ⟨by decide +kernel, by decide +kernel⟩; decide +kernel
theorem partsG_ok {q : Str × Int × Int} (h : GainOk q) : ∀ s ∈ partsG q, SOk 31 s ∧ 32 ∉ tl s ∧ 10 ∉ tl s := by
  intro s hs
  unfold partsG at hs
  have hI : ∀ x : Int, 32 ∉ tl (strI x) ∧ 10 ∉ tl (strI x) := fun x => ⟨fun z => by have := strI_sg _ z; omega, fun z => by have := strI_sg _ z; omega⟩
  simp only [List.mem_cons, List.not_mem_nil, or_false] at hs
  rcases hs with rfl | rfl | rfl | rfl
  · exact ⟨gainw.1.mono (by omega), fun z => by have := gainw.2 _ z; omega, fun z => by have := gainw.2 _ z; omega⟩
  · exact ⟨h.s.mono (by omega), fun z => by have := (isNm_sg h.n _ z).lo; omega, fun z => by have := (isNm_sg h.n _ z).lo; omega⟩
  · exact ⟨strI_ok h.a, hI _⟩
  · exact ⟨strI_ok h.b, hI _⟩
theorem spS_lineG {q : Str × Int × Int} (h : GainOk q) : spS 32 (lineG q) = partsG q := spS_join (by unfold partsG; simp) fun s hs => (partsG_ok h s hs).2.1
theorem gainV_lineG {q : Str × Int × Int} (h : GainOk q) : gainV (spS 32 (lineG q)) = some q := by
  rw [spS_lineG h]
  unfold partsG gainV
  dsimp only
  rw [if_pos ⟨rfl, h.n⟩, intV_strI h.a, intV_strI h.b]
  rfl
theorem lineG_ok {q : Str × Int × Int} (h : GainOk q) : SOk 128 (lineG q) := joinS_ok (k := 4) (m := 31) (c := 32) (by decide) (fun s hs => (partsG_ok h s hs).1) (by unfold partsG; exact Nat.le_refl 4)
theorem lineG_free {q : Str × Int × Int} (h : GainOk q) : 10 ∉ tl (lineG q) := fun z => by
  rcases joinL_mem 32 _ _ z with h1 | ⟨l, h1, h2⟩
  · omega
  · obtain ⟨s, hs, rfl⟩ := List.mem_map.mp h1
    exact (partsG_ok h s hs).2.2 h2
theorem lineG_ne (q : Str × Int × Int) : lineG q ≠ "" := by
  intro h
  have := congrArg tl h
  unfold lineG joinS partsG at this
  rw [tl_mkS] at this
  have : (tl ("gain" : Str) ++ ([32] ++ TL.joinL [32] ([q.1, strI q.2.1, strI q.2.2].map tl))) = tl ("" : Str) := this
  have := congrArg List.length this
  rw [List.length_append, List.length_append] at this
  have e : (tl ("" : Str)).length = 0 := by decide +kernel
  rw [e] at this
  simp at this
/-- the line as the program adds it up -/
theorem lineG_add (q : Str × Int × Int) : (((("gain " : Str) ++ q.1) ++ (" " : Str)) ++ strI q.2.1) ++ (" " : Str) ++ strI q.2.2 = lineG q := by
  refine TL.ext_tl ?_
  rw [TL.tl_append, TL.tl_append, TL.tl_append, TL.tl_append, TL.tl_append]
  unfold lineG joinS partsG
  rw [tl_mkS]
  have e1 : tl ("gain " : Str) = tl ("gain" : Str) ++ [32] := by decide +kernel
  have e2 : tl (" " : Str) = [32] := by decide +kernel
  rw [e1, e2]
  show _ = tl ("gain" : Str) ++ ([32] ++ (tl q.1 ++ ([32] ++ (tl (strI q.2.1) ++ ([32] ++ tl (strI q.2.2))))))
  simp only [List.append_assoc]
/-! ### parts -/
def strP (p : Int × Int) : Str := strI p.1 ++ ("/" : Str) ++ strI p.2
theorem tl_strP (p : Int × Int) : tl (strP p) = TL.joinL [47] [tl (strI p.1), tl (strI p.2)] := by
  unfold strP
  rw [TL.tl_append, TL.tl_append]
  have e : tl ("/" : Str) = [47] := by decide +kernel
  rw [e]
  show _ = tl (strI p.1) ++ ([47] ++ tl (strI p.2))
  rw [List.append_assoc]
theorem FrOk.big {p : Int × Int} (h : FrOk p) : BigI p.1 ∧ BigI p.2 := by
  have := h.t
  have := h.b
  unfold BigI
  omega
theorem frcV_strP {p : Int × Int} (h : FrOk p) : frcV (tl (strP p)) = some p := by
  have hb := h.b
  unfold frcV
  rw [tl_strP, TL.spl_join (by simp) (by
    intro l hl
    simp only [List.mem_cons, List.not_mem_nil, or_false] at hl
    rcases hl with rfl | rfl <;> (intro z; have := strI_sg _ z; omega))]
  dsimp only
  rw [intV_strI h.big.1, numV_strI (by omega) (by omega)]
  show (if p.2 = 0 ∨ Nat.gcd p.1.natAbs p.2.natAbs ≠ 1 then none else some (p.1, p.2)) = _
  rw [if_neg (by rintro (z | z); omega; exact z h.g)]
theorem strP_ok {p : Int × Int} (h : FrOk p) : SOk 63 (strP p) := ((strI_ok h.big.1).append (⟨by decide +kernel, by decide +kernel⟩ : SOk 1 ("/" : Str))).append (strI_ok h.big.2)
theorem strP_free {p : Int × Int} : 32 ∉ tl (strP p) := by
  unfold strP
  rw [TL.tl_append, TL.tl_append]
  have e : tl ("/" : Str) = [47] := by decide +kernel
  rw [e]
  intro z
  rcases List.mem_append.mp z with z | z
  · rcases List.mem_append.mp z with z | z
    · have := strI_sg _ z; omega
    · have := List.mem_singleton.mp z; omega
  · have := strI_sg _ z; omega
/-! ### the lot's line and the parts' line -/
def lineL (ws : List Int) : Str := joinS 32 ("lot" :: ws.map strI)
def lineP (ps : List (Int × Int)) : Str := joinS 32 ("prices" :: ps.map strP)
theorem lotw : SOk 10 ("lot" : Str) ∧ 32 ∉ tl ("lot" : Str) := by constructor; exact ⟨by decide +kernel, by decide +kernel⟩; decide +kernel
theorem pricesw : SOk 10 ("prices" : Str) ∧ 32 ∉ tl ("prices" : Str) := by constructor; exact ⟨by decide +kernel, by decide +kernel⟩; decide +kernel
theorem spS_lineL (ws : List Int) : spS 32 (lineL ws) = ("lot" : Str) :: ws.map strI := spS_join (by simp) fun s hs => by
  rcases List.mem_cons.mp hs with rfl | hs
  · exact lotw.2
  · obtain ⟨x, _, rfl⟩ := List.mem_map.mp hs
    intro z
    have := strI_sg _ z
    omega
theorem spS_lineP (ps : List (Int × Int)) : spS 32 (lineP ps) = ("prices" : Str) :: ps.map strP := spS_join (by simp) fun s hs => by
  rcases List.mem_cons.mp hs with rfl | hs
  · exact pricesw.2
  · obtain ⟨x, _, rfl⟩ := List.mem_map.mp hs
    exact strP_free
theorem lot_big {ws : List Int} (h : LotOk ws) : ∀ w ∈ ws, BigI w := fun w hw => by have := h.b w hw; unfold BigI; omega
theorem wordsL_ok {ws : List Int} (h : LotOk ws) : ∀ s ∈ ("lot" : Str) :: ws.map strI, SOk 63 s := fun s hs => by
  rcases List.mem_cons.mp hs with rfl | hs
  · exact lotw.1.mono (by omega)
  · obtain ⟨x, hx, rfl⟩ := List.mem_map.mp hs
    exact (strI_ok (lot_big h x hx)).mono (by omega)
theorem wordsP_ok {ps : List (Int × Int)} (h : ∀ p ∈ ps, FrOk p) : ∀ s ∈ ("prices" : Str) :: ps.map strP, SOk 63 s := fun s hs => by
  rcases List.mem_cons.mp hs with rfl | hs
  · exact pricesw.1.mono (by omega)
  · obtain ⟨x, hx, rfl⟩ := List.mem_map.mp hs
    exact strP_ok (h x hx)
theorem lineL_ok {ws : List Int} (h : LotOk ws) : SOk 576 (lineL ws) := joinS_ok (k := 9) (m := 63) (c := 32) (by decide) (wordsL_ok h) (by rw [List.length_cons, List.length_map]; have := h.l; omega)
theorem lineP_ok {ps : List (Int × Int)} (h : ∀ p ∈ ps, FrOk p) (hl : ps.length ≤ 4) : SOk 576 (lineP ps) := joinS_ok (k := 9) (m := 63) (c := 32) (by decide) (wordsP_ok h) (by rw [List.length_cons, List.length_map]; omega)
theorem nV_strI {ws : List Int} (h : LotOk ws) : (ws.map strI).map nV = ws.map D.int := by
  rw [List.map_map]
  refine List.map_congr_left fun w hw => ?_
  have := h.b w hw
  show optI (numV (tl (strI w))) = _
  rw [numV_strI (by omega) (by omega)]
  rfl
theorem ints_any : ∀ ws : List Int, (ws.map D.int).any isNB = false
  | [] => rfl
  | w :: r => by rw [List.map_cons, List.any_cons, ints_any r]; rfl
theorem lotD_lineL {ws : List Int} (h : LotOk ws) : lotD "lot" (ws.map strI) = .tup (ws.map D.int) := by
  have h0 : ws ≠ [] := by rintro rfl; have := h.l; simp at this
  unfold lotD
  rw [nV_strI h, intsOf_ints, if_pos]
  refine ⟨rfl, by simpa using h0, ints_any ws, ?_⟩
  show maxL ws ≠ 0
  obtain ⟨w, hw, hz⟩ := h.z
  have h1 := (maxL_is ws h0).2 w hw
  have h2 := h.b w hw
  omega
theorem fV_strP {ps : List (Int × Int)} (h : ∀ p ∈ ps, FrOk p) : (ps.map strP).map fV = ps.map fun p => pairD p.1 p.2 := by
  rw [List.map_map]
  refine List.map_congr_left fun p hp => ?_
  show optP (frcV (tl (strP p))) = _
  rw [frcV_strP (h p hp)]
  rfl
theorem pairs_any : ∀ ps : List (Int × Int), (ps.map fun p => pairD p.1 p.2).any isNB = false
  | [] => rfl
  | w :: r => by rw [List.map_cons, List.any_cons, pairs_any r]; rfl
theorem partsD_lineP {ps : List (Int × Int)} (h : ∀ p ∈ ps, FrOk p) : partsD "prices" "prices" (ps.map strP) = .tup (ps.map fun p => pairD p.1 p.2) := by
  unfold partsD
  rw [fV_strP h, if_pos ⟨rfl, pairs_any ps⟩]

end Lk
end

section
set_option Elab.async false
set_option linter.all false
set_option maxRecDepth 100000
set_option autoImplicit false
set_option maxHeartbeats 1000000
namespace Lk
open Fl PySem
local macro_rules | `(tactic| fail) => `(tactic| first
  | with_reducible first
    | refine tr_seqS ?_ | refine tr_op2 ?_ | refine tr_pure ?_ | refine tr_setM ?_ | refine tr_ifM ?_ | refine tr_boolM ?_ | refine tr_callB ?_ | refine tr_consM ?_ | refine tr_setIxM ?_ | refine tr_andM ?_ | refine tr_orM ?_ | refine tr_notM ?_ | refine tr_retM ?_
    | refine tr_frzM ?_ | refine tr_callM ?_ | refine tr_consR ?_ | refine tr_argV ?_ | refine tr_forM ?_ | refine tr_itM ?_ | refine tr_setO ?_ | refine tr_lstM ?_ | refine tr_tupM ?_ | refine tr_bind ?_
    | refine tr_splS ?_ | refine tr_setKM ?_ | refine tr_inKM ?_ | refine tr_getM ?_ | refine tr_catM ?_ | refine tr_joinM ?_ | refine tr_inQM ?_ | refine tr_landV ?_ | refine tr_landM ?_ | refine tr_lorM ?_ | refine tr_bM ?_ | refine tr_ownC ?_ | refine tr_retO ?_ | refine tr_exprM ?_ | refine tr_seqM ?_ | refine tr_qM ?_ | refine tr_qN ?_ | refine tr_isiM ?_ | refine tr_negM ?_ | refine tr_bitsM ?_ | refine tr_partM ?_ | refine tr_slM ?_ | refine tr_chainL ?_ | refine tr_iteT ?_ | refine tr_iteF ?_ | refine tr_iteNF ?_ | refine tr_iteNT ?_ | refine tr_parM ?_
    | refine tr_consN ?_ | refine tr_newM ?_ | refine tr_callN ?_ | refine tr_asgM ?_ | refine tr_lcM ?_
  | ((with_reducible refine' tr_var ?e ?k); (case e => exact rfl))
  | with_reducible refine tr_chainM ?_
  | ((with_reducible refine' tr_ixOM ?e ?k); (case e => exact rfl))
  | ((with_reducible refine' tr_ixKM ?e ?k); (case e => exact rfl))
  | ((with_reducible refine' tr_frzSk ?e ?k); (case e => exact rfl); dsimp only [List.set])
  | ((with_reducible refine' tr_frzS ?e ?k); (case e => exact rfl); dsimp only [List.set])
  | ((with_reducible refine' tr_retVk ?e ?k); (case e => exact rfl))
  | ((with_reducible refine' tr_argR ?e ?f ?k); (case e => exact rfl); (case f => exact rfl))
  | ((with_reducible refine' tr_argB ?e ?f ?k); (case e => exact rfl); (case f => exact rfl))
  | ((with_reducible refine' tr_appM ?e ?k); (case e => exact rfl))
  | ((with_reducible refine' tr_retV ?e ?k); (case e => exact rfl))
  | ((with_reducible refine' tr_ownM ?e ?k); (case e => exact rfl))
  | ((with_reducible refine' tr_opt ?e ?k); (case e => exact rfl))
  | with_reducible refine tr_mul (by first | exact .inl (.inr ⟨by decide, by decide⟩) | exact .inl (.inl ⟨by omega, by omega⟩)) ?_
  | with_reducible refine tr_mod (by first | decide | omega) ?_
  | with_reducible refine tr_fdiv (by first | decide | assumption) ?_
  | ((with_reducible refine' ⟨_, _, _, _, ?e, ?f, ?g, ?k⟩); (case e => exact rfl); (case f => exact rfl); (case g => exact rfl); dsimp only [List.set])
  | ((with_reducible refine' ⟨_, _, (?e : _ = some (some (Dv.o _ _))), ?k⟩); (case e => exact rfl))
  | ((with_reducible refine' ⟨?e, ?k⟩); (case e => (with_reducible show okSlot _ _ = true); exact rfl); dsimp only [List.set])
  | ((with_reducible refine' ⟨?e, ?k⟩); (case e => (with_reducible show isO _ _ = true); exact rfl))
  | ((with_reducible refine' ⟨?e, ?k⟩); (case e => (with_reducible show List.length _ ≤ sizeLine); exact le_sz rfl))
  | ((with_reducible refine' ⟨?e, ?k⟩); (case e => (with_reducible show noIo _ _ = true); exact rfl))
  | ((with_reducible refine' ⟨okAt ?h ?e, ?k⟩); (case e => exact rfl); (case h => assumption); dsimp only [List.set])
  | ((with_reducible refine' ⟨noIoAt ?h ?e, ?k⟩); (case e => exact rfl); (case h => assumption))
  | ((with_reducible refine' ⟨_, (?e : _ = some (some (Dv.p _))), ?k⟩); (case e => exact rfl))
  | ((with_reducible refine' ⟨?e, ?k⟩); (case e => (with_reducible show isK _ _ = true); exact rfl)))
theorem RS_eq {r : R} {w : Dv} {ws : List Dv} (h : RS r fun w' ws' => w' = w ∧ ws' = ws) : r = .ok w ws := by
  cases r with
  | ok a b => obtain ⟨rfl, rfl⟩ := h; rfl
  | ex c => exact h.elim
  | no => exact h.elim
theorem tr_try_ok {mb : M Fw} {cl : List Cla} {ρ : Fl.Env} {P : Fw → Fl.Env → Prop} (h : Tr (mb ρ) P) : Tr (tryM mb cl ρ) P := by
  unfold tryM
  cases e : mb ρ with
  | ok a ρ' => rw [e] at h; exact h
  | ex c ρ' => rw [e] at h; exact h.elim
  | no => rw [e] at h; exact h.elim
theorem tr_try_ex {mb : M Fw} {cl : List Cla} {ρ ρ' : Fl.Env} {c : Exn} {P : Fw → Fl.Env → Prop} (e : mb ρ = .ex c ρ') (h : Tr (handM cl c ρ') P) : Tr (tryM mb cl ρ) P := by
  unfold tryM
  rw [e]
  exact h
theorem tr_hand {q : Cla} {r : List Cla} {c : Exn} {i : Nat} {ρ : Fl.Env} {P : Fw → Fl.Env → Prop} (h1 : q.cat c.cls = some true) (h2 : q.sl = some i) (h3 : okX ρ i = true) (h : Tr (q.ms c (ρ.set i (some .x))) fun fl ρ1 => P fl (ρ1.set i none)) : Tr (handM (q :: r) c ρ) P := by
  unfold handM
  rw [h1, h2]
  dsimp only
  rw [if_pos h3]
  cases e : q.ms c (ρ.set i (some .x)) with
  | ok fl ρ1 => rw [e] at h; exact h
  | ex c ρ' => rw [e] at h; exact h.elim
  | no => rw [e] at h; exact h.elim
theorem tr_excM {i : Nat} {z : Option D} {d : D} {ρ : Fl.Env} {P : D → Fl.Env → Prop} (h1 : isXat ρ i = true) (h2 : z = some d) (h : P d ρ) : Tr (excM i z ρ) P := by
  unfold excM
  rw [if_pos h1, h2]
  exact h
theorem callC_1 {f : List Dv → R} {g : D} {ρ : Fl.Env} {w : Dv} {ws : List Dv} (h : f [.p g] = .ok w ws) (hl : ws.length = 1) : callC f [.v g] ρ = .ok w ρ := by
  obtain ⟨u, rfl⟩ : ∃ u, ws = [u] := by
    cases ws with
    | nil => cases hl
    | cons u r => cases r with
      | nil => exact ⟨u, rfl⟩
      | cons _ _ => simp at hl
  unfold callC
  show (if nodupB [] = true then _ else _) = _
  rw [h]
  rfl
theorem callC_1x {f : List Dv → R} {g : D} {ρ : Fl.Env} {c : Exn} (h : f [.p g] = .ex c) : callC f [.v g] ρ = .ex c ρ := by
  unfold callC
  show (if nodupB [] = true then _ else _) = _
  rw [h]
  rfl
theorem seqS_nx {a b : M Fw} {ρ ρ1 : Fl.Env} (h : a ρ = .ok .nx ρ1) : seqS a b ρ = b ρ1 := by unfold seqS bindM; rw [h]
theorem seqS_x {a b : M Fw} {ρ ρ1 : Fl.Env} {c : Exn} (h : a ρ = .ex c ρ1) : seqS a b ρ = .ex c ρ1 := by unfold seqS bindM; rw [h]
theorem setM_ok {i : Nat} {m : M D} {ρ ρ1 : Fl.Env} {d : D} (h : m ρ = .ok d ρ1) (hs : okSlot ρ1 i = true) : setM i m ρ = .ok .nx (ρ1.set i (some (.p d))) := by
  unfold setM bindM; rw [h]; show putS i (.p d) ρ1 = _; unfold putS; rw [if_pos hs]
theorem setM_x {i : Nat} {m : M D} {ρ ρ1 : Fl.Env} {c : Exn} (h : m ρ = .ex c ρ1) : setM i m ρ = .ex c ρ1 := by unfold setM bindM; rw [h]
theorem frzM_ok {m : M Dv} {ρ ρ1 : Fl.Env} {w : Dv} {d : D} (h : m ρ = .ok w ρ1) (hw : frzF w = some d) : frzM m ρ = .ok d ρ1 := by unfold frzM bindM; rw [h]; show optM (frzF w) ρ1 = _; rw [hw]; rfl
theorem frzM_x {m : M Dv} {ρ ρ1 : Fl.Env} {c : Exn} (h : m ρ = .ex c ρ1) : frzM m ρ = .ex c ρ1 := by unfold frzM bindM; rw [h]
theorem callM_at {f : List Dv → R} {ma : M (List Fl.Arg)} {ρ ρ1 : Fl.Env} {as : List Fl.Arg} {o : Out Dv} (h : ma ρ = .ok as ρ1) (ho : callC f as ρ1 = o) : callM f ma ρ = o := by unfold callM bindM; rw [h]; exact ho
theorem RS_of {r : R} {w : Dv} {ws : List Dv} {P : Dv → List Dv → Prop} (e : r = .ok w ws) (h : P w ws) : RS r P := by rw [e]; exact h

/-- the exception c ends it -/
def TX {α : Type} (o : Out α) (c : Exn) : Prop := ∃ ρ', o = .ex c ρ'
section
variable {α : Type} {ρ : Fl.Env} {c : Exn}
theorem tx_seq1 {a b : M Fw} (h : TX (a ρ) c) : TX (seqS a b ρ) c := by obtain ⟨ρ', h⟩ := h; exact ⟨ρ', seqS_x h⟩
theorem tr_inv {o : Out α} {P : α → Fl.Env → Prop} (h : Tr o P) : ∃ a ρ', o = .ok a ρ' ∧ P a ρ' := by
  cases o with
  | ok a ρ' => exact ⟨a, ρ', rfl, h⟩
  | ex _ _ => exact h.elim
  | no => exact h.elim
theorem tx_seq2 {a b : M Fw} (h : Tr (a ρ) fun fl ρ1 => match fl with
    | .nx => TX (b ρ1) c
    | _ => False) : TX (seqS a b ρ) c := by
  obtain ⟨fl, ρ', e, h⟩ := tr_inv h
  cases fl with
  | nx => rw [seqS_nx e]; exact h
  | _ => exact h.elim
theorem tx_bind {β : Type} {m : M α} {f : α → M β} (h : Tr (m ρ) fun a ρ1 => TX (f a ρ1) c) : TX (bindM m f ρ) c := by
  obtain ⟨a, ρ', e, h⟩ := tr_inv h
  unfold bindM
  rw [e]
  exact h
theorem tx_ifM {b : M Bool} {x y : M α} (h : Tr (b ρ) fun z ρ1 => if z = true then TX (x ρ1) c else TX (y ρ1) c) : TX (ifM b x y ρ) c := by
  refine tx_bind (h.mono fun z ρ1 q => ?_)
  cases z with
  | true => rw [if_pos rfl] at q; exact q
  | false => rw [if_neg Bool.false_ne_true] at q; exact q
theorem tx_raise {x : Str} {m : M D} (h : Tr (m ρ) fun _ _ => True) : TX (raiseM x m ρ) ⟨x, none⟩ := tx_bind (h.mono fun _ ρ1 _ => ⟨ρ1, rfl⟩)
theorem tx_forM {mi : M (List D)} {f : D → Fl.Env → Option Fl.Env} {b : M Fw} (h : Tr (mi ρ) fun ds ρ1 => TX (forL ds f b ρ1) c) : TX (forM mi f b ρ) c := tx_bind h
theorem tx_for {α : Type} {g : α → D} {f : D → Fl.Env → Option Fl.Env} {b : M Fw} (I : List α → Fl.Env → Prop) (st : ∀ x r ρ, I (x :: r) ρ → ∃ ρ1, f (g x) ρ = some ρ1 ∧ (TX (b ρ1) c ∨ Tr (b ρ1) fun fl ρ2 => fl = .nx ∧ I r ρ2)) (fin : ∀ ρ, I [] ρ → False) :
    ∀ (xs : List α) (ρ : Fl.Env), I xs ρ → TX (forL (xs.map g) f b ρ) c
  | [], ρ, h => (fin ρ h).elim
  | x :: r, ρ, h => by
    obtain ⟨ρ1, e, h⟩ := st x r ρ h
    rw [List.map_cons]
    unfold forL
    rw [e]
    dsimp only
    rcases h with ⟨ρ', h⟩ | h
    · rw [h]; exact ⟨ρ', rfl⟩
    · obtain ⟨fl, ρ', e2, rfl, h⟩ := tr_inv h
      rw [e2]
      exact tx_for I st fin r ρ' h
end
theorem fn_ex {np nN : Nat} {b : M Fw} {ws : List Dv} {c : Exn} (hl : ws.length = np) (h : TX (b (startE nN ws)) c) : fnM np nN b ws = .ex c := by
  obtain ⟨ρ', h⟩ := h
  unfold fnM
  rw [if_pos hl, h]
theorem callC_ex {f : List Dv → R} {as : List Fl.Arg} {ρ : Fl.Env} {ws : List Dv} {c : Exn} (e : argsOf ρ as = some ws) (nd : nodupB (jsOf as) = true) (hj : jsOf as = []) (h : f ws = .ex c) : callC f as ρ = .ex c ρ := by
  unfold callC
  rw [e]
  dsimp only
  rw [if_pos nd, h]
  dsimp only
  rw [if_pos hj]
theorem retO_x {m : M Dv} {ρ ρ' : Fl.Env} {c : Exn} (h : m ρ = .ex c ρ') : retO m ρ = .ex c ρ' := by unfold retO bindM; rw [h]

end Lk
end

section
set_option Elab.async false
set_option linter.all false
set_option maxRecDepth 100000
set_option autoImplicit false
set_option maxHeartbeats 1000000
namespace Lk
open Fl PySem
local macro_rules | `(tactic| fail) => `(tactic| first
  | with_reducible first
    | refine tr_seqS ?_ | refine tr_op2 ?_ | refine tr_pure ?_ | refine tr_setM ?_ | refine tr_ifM ?_ | refine tr_boolM ?_ | refine tr_callB ?_ | refine tr_consM ?_ | refine tr_setIxM ?_ | refine tr_andM ?_ | refine tr_orM ?_ | refine tr_notM ?_ | refine tr_retM ?_
    | refine tr_frzM ?_ | refine tr_callM ?_ | refine tr_consR ?_ | refine tr_argV ?_ | refine tr_forM ?_ | refine tr_itM ?_ | refine tr_setO ?_ | refine tr_lstM ?_ | refine tr_tupM ?_ | refine tr_bind ?_
    | refine tr_splS ?_ | refine tr_setKM ?_ | refine tr_inKM ?_ | refine tr_getM ?_ | refine tr_catM ?_ | refine tr_joinM ?_ | refine tr_inQM ?_ | refine tr_landV ?_ | refine tr_landM ?_ | refine tr_lorM ?_ | refine tr_bM ?_ | refine tr_ownC ?_ | refine tr_retO ?_ | refine tr_exprM ?_ | refine tr_seqM ?_ | refine tr_qM ?_ | refine tr_qN ?_ | refine tr_isiM ?_ | refine tr_negM ?_ | refine tr_bitsM ?_ | refine tr_partM ?_ | refine tr_slM ?_ | refine tr_chainL ?_ | refine tr_iteT ?_ | refine tr_iteF ?_ | refine tr_iteNF ?_ | refine tr_iteNT ?_ | refine tr_parM ?_
    | refine tr_consN ?_ | refine tr_newM ?_ | refine tr_callN ?_ | refine tr_asgM ?_ | refine tr_lcM ?_
  | ((with_reducible refine' tr_var ?e ?k); (case e => exact rfl))
  | with_reducible refine tr_chainM ?_
  | ((with_reducible refine' tr_ixOM ?e ?k); (case e => exact rfl))
  | ((with_reducible refine' tr_ixKM ?e ?k); (case e => exact rfl))
  | ((with_reducible refine' tr_frzSk ?e ?k); (case e => exact rfl); dsimp only [List.set])
  | ((with_reducible refine' tr_frzS ?e ?k); (case e => exact rfl); dsimp only [List.set])
  | ((with_reducible refine' tr_retVk ?e ?k); (case e => exact rfl))
  | ((with_reducible refine' tr_argR ?e ?f ?k); (case e => exact rfl); (case f => exact rfl))
  | ((with_reducible refine' tr_argB ?e ?f ?k); (case e => exact rfl); (case f => exact rfl))
  | ((with_reducible refine' tr_appM ?e ?k); (case e => exact rfl))
  | ((with_reducible refine' tr_retV ?e ?k); (case e => exact rfl))
  | ((with_reducible refine' tr_ownM ?e ?k); (case e => exact rfl))
  | ((with_reducible refine' tr_opt ?e ?k); (case e => exact rfl))
  | with_reducible refine tr_mul (by first | exact .inl (.inr ⟨by decide, by decide⟩) | exact .inl (.inl ⟨by omega, by omega⟩)) ?_
  | with_reducible refine tr_mod (by first | decide | omega) ?_
  | with_reducible refine tr_fdiv (by first | decide | assumption) ?_
  | ((with_reducible refine' ⟨_, _, _, _, ?e, ?f, ?g, ?k⟩); (case e => exact rfl); (case f => exact rfl); (case g => exact rfl); dsimp only [List.set])
  | ((with_reducible refine' ⟨_, _, (?e : _ = some (some (Dv.o _ _))), ?k⟩); (case e => exact rfl))
  | ((with_reducible refine' ⟨?e, ?k⟩); (case e => (with_reducible show okSlot _ _ = true); exact rfl); dsimp only [List.set])
  | ((with_reducible refine' ⟨?e, ?k⟩); (case e => (with_reducible show isO _ _ = true); exact rfl))
  | ((with_reducible refine' ⟨?e, ?k⟩); (case e => (with_reducible show List.length _ ≤ sizeLine); exact le_sz rfl))
  | ((with_reducible refine' ⟨?e, ?k⟩); (case e => (with_reducible show noIo _ _ = true); exact rfl))
  | ((with_reducible refine' ⟨okAt ?h ?e, ?k⟩); (case e => exact rfl); (case h => assumption); dsimp only [List.set])
  | ((with_reducible refine' ⟨noIoAt ?h ?e, ?k⟩); (case e => exact rfl); (case h => assumption))
  | ((with_reducible refine' ⟨_, (?e : _ = some (some (Dv.p _))), ?k⟩); (case e => exact rfl))
  | ((with_reducible refine' ⟨?e, ?k⟩); (case e => (with_reducible show isK _ _ = true); exact rfl)))
open TL (tl)
/-- the line at fault, 0 if none is -/
def faultL : List Str → Str → Nat → Nat
  | [], _, _ => 0
  | l :: r, last, k => match gainV (spS 32 l) with
    | some q => if tl last < tl q.1 then faultL r q.1 (k + 1) else k + 1
    | none => k + 1
def accG : List Str → Gs → Gs
  | [], g => g
  | l :: r, g => match gainV (spS 32 l) with
    | some q => accG r (putG g q.1 (q.2.1, q.2.2))
    | none => g
theorem faultL_cons (l : Str) (r : List Str) (last : Str) (k : Nat) : faultL (l :: r) last k = match gainV (spS 32 l) with
    | some q => if tl last < tl q.1 then faultL r q.1 (k + 1) else k + 1
    | none => k + 1 := rfl
theorem accG_cons (l : Str) (r : List Str) (g : Gs) : accG (l :: r) g = match gainV (spS 32 l) with
    | some q => accG r (putG g q.1 (q.2.1, q.2.2))
    | none => g := rfl
theorem fault_step {l : Str} {r : List Str} {last : Str} {k : Nat} (h : faultL (l :: r) last k = 0) : ∃ q, gainV (spS 32 l) = some q ∧ tl last < tl q.1 ∧ faultL r q.1 (k + 1) = 0 := by
  unfold faultL at h
  cases e : gainV (spS 32 l) with
  | none => rw [e] at h; simp at h
  | some q =>
    rw [e] at h
    dsimp only at h
    by_cases h1 : tl last < tl q.1
    · rw [if_pos h1] at h; exact ⟨q, rfl, h1, h⟩
    · rw [if_neg h1] at h; simp at h
theorem gainD_some (q : Str × Int × Int) : gainD (some q) = .tup [.str q.1, pairD q.2.1 q.2.2] := rfl
theorem itemLs (ls : List Str) {i : Nat} (h : i < ls.length) : (ls.map D.str)[i]? = some (.str ls[i]) := by rw [List.getElem?_map, List.getElem?_eq_getElem h]; rfl
structure RdSt where
  last : Str
  x : Option Dv
  y : Option Dv
theorem lines_fault_rs {ls : List Str} {n : Nat} {P : Dv → List Dv → Prop} (hs : ∀ l ∈ ls, SOk n l) (hn : n ≤ 1000) (hl : ls.length ≤ 1000000) (h : P (.p (.int (faultL ls "" 0 : Nat))) [.p (.lst (ls.map D.str))]) : RS (m__law_lines_fault [.p (.lst (ls.map D.str))]) P := by
  refine rs_fn rfl ?_
  show Tr (b__law_lines_fault [some (.p (.lst (ls.map D.str))), none, none, none]) _
  unfold b__law_lines_fault
  repeat fail
  show Tr (optM (rng1F (.int (((ls.map D.str).length : Nat) : Int))) _) _
  rw [List.length_map]
  refine tr_rng (by omega) (by omega) ?_
  refine tr_forN (σ := RdSt) (fun t => [some (.p (.lst (ls.map D.str))), some (.p (.str t.last)), t.x, t.y])
    (fun i t => faultL (ls.drop i) t.last i = faultL ls "" 0 ∧ OkS t.x ∧ OkS t.y) ⟨"", none, none⟩ _ ⟨rfl, .n, .n⟩ rfl ?_ ?_
  · rintro i ⟨last, x, y⟩ hi ⟨h1, hx, hy⟩
    have hil : i < ls.length := by omega
    dsimp only at h1 hx hy
    rw [List.drop_eq_getElem_cons hil] at h1
    rw [faultL_cons] at h1
    refine ⟨_, tgN_ok (okAt hx rfl), ?_⟩
    dsimp only [List.set]
    repeat fail
    refine tr_opt (ix_lst (itemLs ls hil)) ?_
    repeat fail
    refine tr_call rfl rfl rfl (own_gain_rs (hs _ (List.getElem_mem hil)) hn ?_)
    dsimp only [updP, refsOf]
    cases e : gainV (spS 32 ls[i]) with
    | none =>
      rw [e] at h1
      dsimp only at h1
      rw [← h1] at h
      unfold gainD
      repeat fail
      exact h
    | some q =>
      rw [e] at h1
      dsimp only at h1
      rw [gainD_some]
      repeat fail
      refine tr_ite (fun h2 => ?_) (fun h2 => ?_)
      · have h3 : (!decide (tl last < tl q.1)) = true := h2
        rw [if_neg (by intro z; rw [decide_eq_true z] at h3; cases h3)] at h1
        rw [← h1] at h
        repeat fail
        exact h
      · have h3 : (!decide (tl last < tl q.1)) = false := h2
        rw [if_pos (by simpa using h3)] at h1
        repeat fail
        exact ⟨⟨q.1, _, _⟩, rfl, h1, .p, .p⟩
  · rintro ⟨last, x, y⟩ ⟨h1, hx, hy⟩
    dsimp only at h1
    rw [List.drop_of_length_le (by omega)] at h1
    have h2 : 0 = faultL ls "" 0 := h1
    rw [← h2] at h
    repeat fail
    exact h
structure PdSt where
  g : Gs
  x : Option Dv
  y : Option Dv
theorem accG_len : ∀ (ls : List Str) (g : Gs), (accG ls g).length ≤ g.length + ls.length
  | [], g => by simp [accG]
  | l :: r, g => by
    unfold accG
    cases gainV (spS 32 l) with
    | none => simp only; omega
    | some q =>
      simp only
      have := accG_len r (putG g q.1 (q.2.1, q.2.2))
      have := putG_len g q.1 (q.2.1, q.2.2)
      rw [List.length_cons]
      omega
theorem pairs_dict_rs {ls : List Str} {n : Nat} {P : Dv → List Dv → Prop} (hs : ∀ l ∈ ls, SOk n l) (hn : n ≤ 1000) (hl : ls.length ≤ 1000000) (ha : ∀ l ∈ ls, ∃ q, gainV (spS 32 l) = some q)
    (h : P (.k false (kvG (accG ls []))) [.p (.lst (ls.map D.str))]) : RS (m__law_pairs_dict [.p (.lst (ls.map D.str))]) P := by
  refine rs_fn rfl ?_
  show Tr (b__law_pairs_dict [some (.p (.lst (ls.map D.str))), none, none, none]) _
  unfold b__law_pairs_dict
  repeat fail
  refine tr_forS (σ := PdSt) (fun t => [some (.p (.lst (ls.map D.str))), some (.k false (kvG t.g)), t.x, t.y])
    (fun r t => accG r t.g = accG ls [] ∧ t.g.length + r.length ≤ ls.length ∧ (∀ l ∈ r, l ∈ ls) ∧ OkS t.x ∧ OkS t.y) ls ⟨[], none, none⟩ _ ⟨rfl, by simp, fun _ h => h, .n, .n⟩ rfl ?_ ?_
  · rintro l r ⟨g, x, y⟩ ⟨h1, h2, hm, hx, hy⟩
    dsimp only at h1 h2 hx hy
    rw [List.length_cons] at h2
    have hl1 := hm l (List.mem_cons_self ..)
    obtain ⟨q, e⟩ := ha l hl1
    rw [accG_cons] at h1
    rw [e] at h1
    dsimp only at h1
    refine ⟨_, tgN_ok (okAt hx rfl), ?_⟩
    dsimp only [List.set]
    repeat fail
    refine tr_call rfl rfl rfl (own_gain_rs (hs _ hl1) hn ?_)
    dsimp only [updP, refsOf]
    rw [e, gainD_some]
    repeat fail
    refine ⟨_, kvG g, .inr q.1, rfl, rfl, by unfold kvG; rw [List.length_map]; show _ < 2 ^ 24; omega, ?_⟩
    refine ⟨⟨putG g q.1 (q.2.1, q.2.2), some (.p (.str l)), some (.p (.tup [.str q.1, pairD q.2.1 q.2.2]))⟩, ?_, h1, by have := putG_len g q.1 (q.2.1, q.2.2); show (putG g q.1 (q.2.1, q.2.2)).length + r.length ≤ _; omega, fun l hl => hm l (List.mem_cons_of_mem _ hl), .p, .p⟩
    rw [put_kvG]
    rfl
  · rintro ⟨g, x, y⟩ ⟨h1, h2, hm, hx, hy⟩
    dsimp only at h1
    have h3 : g = accG ls [] := h1
    rw [← h3] at h
    repeat fail
    exact h

end Lk
end

section
set_option Elab.async false
set_option linter.all false
set_option maxRecDepth 100000
set_option autoImplicit false
set_option maxHeartbeats 1000000
namespace Lk
open Fl PySem
local macro_rules | `(tactic| fail) => `(tactic| first
  | with_reducible first
    | refine tr_seqS ?_ | refine tr_op2 ?_ | refine tr_pure ?_ | refine tr_setM ?_ | refine tr_ifM ?_ | refine tr_boolM ?_ | refine tr_callB ?_ | refine tr_consM ?_ | refine tr_setIxM ?_ | refine tr_andM ?_ | refine tr_orM ?_ | refine tr_notM ?_ | refine tr_retM ?_
    | refine tr_frzM ?_ | refine tr_callM ?_ | refine tr_consR ?_ | refine tr_argV ?_ | refine tr_forM ?_ | refine tr_itM ?_ | refine tr_setO ?_ | refine tr_lstM ?_ | refine tr_tupM ?_ | refine tr_bind ?_
    | refine tr_splS ?_ | refine tr_setKM ?_ | refine tr_inKM ?_ | refine tr_getM ?_ | refine tr_catM ?_ | refine tr_joinM ?_ | refine tr_inQM ?_ | refine tr_landV ?_ | refine tr_landM ?_ | refine tr_lorM ?_ | refine tr_bM ?_ | refine tr_ownC ?_ | refine tr_retO ?_ | refine tr_exprM ?_ | refine tr_seqM ?_ | refine tr_qM ?_ | refine tr_qN ?_ | refine tr_isiM ?_ | refine tr_negM ?_ | refine tr_bitsM ?_ | refine tr_partM ?_ | refine tr_slM ?_ | refine tr_chainL ?_ | refine tr_iteT ?_ | refine tr_iteF ?_ | refine tr_iteNF ?_ | refine tr_iteNT ?_ | refine tr_parM ?_
    | refine tr_consN ?_ | refine tr_newM ?_ | refine tr_callN ?_ | refine tr_asgM ?_ | refine tr_lcM ?_
  | ((with_reducible refine' tr_var ?e ?k); (case e => exact rfl))
  | with_reducible refine tr_chainM ?_
  | ((with_reducible refine' tr_ixOM ?e ?k); (case e => exact rfl))
  | ((with_reducible refine' tr_ixKM ?e ?k); (case e => exact rfl))
  | ((with_reducible refine' tr_frzSk ?e ?k); (case e => exact rfl); dsimp only [List.set])
  | ((with_reducible refine' tr_frzS ?e ?k); (case e => exact rfl); dsimp only [List.set])
  | ((with_reducible refine' tr_retVk ?e ?k); (case e => exact rfl))
  | ((with_reducible refine' tr_argR ?e ?f ?k); (case e => exact rfl); (case f => exact rfl))
  | ((with_reducible refine' tr_argB ?e ?f ?k); (case e => exact rfl); (case f => exact rfl))
  | ((with_reducible refine' tr_appM ?e ?k); (case e => exact rfl))
  | ((with_reducible refine' tr_retV ?e ?k); (case e => exact rfl))
  | ((with_reducible refine' tr_ownM ?e ?k); (case e => exact rfl))
  | ((with_reducible refine' tr_opt ?e ?k); (case e => exact rfl))
  | with_reducible refine tr_mul (by first | exact .inl (.inr ⟨by decide, by decide⟩) | exact .inl (.inl ⟨by omega, by omega⟩)) ?_
  | with_reducible refine tr_mod (by first | decide | omega) ?_
  | with_reducible refine tr_fdiv (by first | decide | assumption) ?_
  | ((with_reducible refine' ⟨_, _, _, _, ?e, ?f, ?g, ?k⟩); (case e => exact rfl); (case f => exact rfl); (case g => exact rfl); dsimp only [List.set])
  | ((with_reducible refine' ⟨_, _, (?e : _ = some (some (Dv.o _ _))), ?k⟩); (case e => exact rfl))
  | ((with_reducible refine' ⟨?e, ?k⟩); (case e => (with_reducible show okSlot _ _ = true); exact rfl); dsimp only [List.set])
  | ((with_reducible refine' ⟨?e, ?k⟩); (case e => (with_reducible show isO _ _ = true); exact rfl))
  | ((with_reducible refine' ⟨?e, ?k⟩); (case e => (with_reducible show List.length _ ≤ sizeLine); exact le_sz rfl))
  | ((with_reducible refine' ⟨?e, ?k⟩); (case e => (with_reducible show noIo _ _ = true); exact rfl))
  | ((with_reducible refine' ⟨okAt ?h ?e, ?k⟩); (case e => exact rfl); (case h => assumption); dsimp only [List.set])
  | ((with_reducible refine' ⟨noIoAt ?h ?e, ?k⟩); (case e => exact rfl); (case h => assumption))
  | ((with_reducible refine' ⟨_, (?e : _ = some (some (Dv.p _))), ?k⟩); (case e => exact rfl))
  | ((with_reducible refine' ⟨?e, ?k⟩); (case e => (with_reducible show isK _ _ = true); exact rfl)))
open TL (tl)
/-- a loop over enumerate(cs), its state told by s -/
theorem tr_forE {σ : Type} {f : D → Fl.Env → Option Fl.Env} {b : M Fw} {P : Fw → Fl.Env → Prop} (e : σ → Fl.Env) (I : List D → Nat → σ → Prop) (cs : List D) (s0 : σ) (ρ : Fl.Env) (h0 : I cs 0 s0) (hρ : ρ = e s0)
    (st : ∀ c r (i : Nat) s, I (c :: r) i s → ∃ ρ1, f (.tup [.int (i : Nat), c]) (e s) = some ρ1 ∧ Tr (b ρ1) fun fl ρ2 => match fl with
      | .nx => ∃ s', ρ2 = e s' ∧ I r (i + 1) s'
      | .ct => ∃ s', ρ2 = e s' ∧ I r (i + 1) s'
      | .bk => P .nx ρ2
      | .ret w => P (.ret w) ρ2) (fin : ∀ i s, I [] i s → P .nx (e s)) : Tr (forL (enD cs) f b ρ) P := by
  unfold enD
  refine tr_forS (σ := σ × Nat) (fun s => e s.1) (fun q s => ∃ r, q = r.zipIdx s.2 ∧ I r s.2 s.1) cs.zipIdx (s0, 0) ρ ⟨cs, rfl, h0⟩ hρ ?_ ?_
  · rintro ⟨c, j⟩ q ⟨s, i⟩ ⟨r, hq, hI⟩
    cases r with
    | nil => cases hq
    | cons c' r =>
      rw [List.zipIdx_cons] at hq
      obtain ⟨h1, h2⟩ := List.cons.inj hq
      obtain ⟨rfl, rfl⟩ := Prod.mk.inj h1
      obtain ⟨ρ1, h3, h4⟩ := st c r j s hI
      refine ⟨ρ1, h3, h4.mono fun fl ρ2 z => ?_⟩
      cases fl with
      | nx => obtain ⟨s', e1, z⟩ := z; exact ⟨(s', j + 1), e1, r, h2, z⟩
      | ct => obtain ⟨s', e1, z⟩ := z; exact ⟨(s', j + 1), e1, r, h2, z⟩
      | bk => exact z
      | ret w => exact z
  · rintro ⟨s, i⟩ ⟨r, hq, hI⟩
    cases r with
    | nil => exact fin i s hI
    | cons c' r => rw [List.zipIdx_cons] at hq; cases hq
theorem tx_raisePM {x f : Str} {g : D → Bool} {m : M D} {d : D} {ρ : Fl.Env} (h : Tr (m ρ) fun e _ => e = d ∧ g d = true) : TX (raisePM x f g m ρ) ⟨x, some (f, d)⟩ := by
  refine tx_bind (h.mono fun e ρ1 q => ?_)
  obtain ⟨rfl, q⟩ := q
  rw [if_pos q]
  exact ⟨ρ1, rfl⟩
structure RgSt where
  g : Gs
  last : Str
  x : Option Dv
  y : Option Dv
  z : Option Dv
theorem str_eq (a b : Str) : eqF (.str a) (.str b) = some (.bl (decide (a = b))) := rfl
theorem read_gains_empty {P : Dv → List Dv → Prop} (h : P (.k false []) [.p (.str "")]) : RS (m_read_gains [.p (.str "")]) P := by
  refine rs_fn rfl ?_
  show Tr (b_read_gains [some (.p (.str "")), none, none, none, none, none]) _
  unfold b_read_gains
  repeat fail
  refine tr_iteC (decide_eq_true rfl) ?_
  repeat fail
  exact h
theorem read_gains_ok {s : Str} {n : Nat} {P : Dv → List Dv → Prop} (hs : SOk n s) (hn : n ≤ 1000000) (hne : s ≠ "") (hok : ∀ l ∈ spS 10 s, SOk 1000 l) (hf : faultL (spS 10 s) "" 0 = 0) (h : P (.k false (kvG (accG (spS 10 s) []))) [.p (.str s)]) : RS (m_read_gains [.p (.str s)]) P := by
  have hlen := (spS_len hs (c := 10)).2
  refine rs_fn rfl ?_
  show Tr (b_read_gains [some (.p (.str s)), none, none, none, none, none]) _
  unfold b_read_gains
  repeat fail
  refine tr_iteD (decide_eq_false hne) ?_
  repeat fail
  refine spl_ok hs (by omega) str_nl (by decide) ?_
  rw [split_eq str_nl (by decide)]
  generalize spS 10 s = ls at hok hf h hlen ⊢
  repeat fail
  refine tr_forE (σ := RgSt) (fun t => [some (.p (.str s)), some (.k false (kvG t.g)), some (.p (.str t.last)), t.x, t.y, t.z])
    (fun r i t => ∃ q : List Str, r = q.map D.str ∧ faultL q t.last i = 0 ∧ accG q t.g = accG ls [] ∧ t.g.length + q.length ≤ ls.length ∧ (∀ l ∈ q, l ∈ ls) ∧ OkS t.x ∧ OkS t.y ∧ OkS t.z) _ ⟨[], "", none, none, none⟩ _ ⟨ls, rfl, hf, rfl, by simp, fun _ h => h, .n, .n, .n⟩ rfl ?_ ?_
  · rintro c r i ⟨g, last, x, y, z⟩ ⟨q, e, h1, h2, h3, hm, hx, hy, hz⟩
    dsimp only at h1 h2 h3 hx hy hz
    cases q with
    | nil => cases e
    | cons l q =>
    rw [List.map_cons] at e
    obtain ⟨rfl, rfl⟩ := List.cons.inj e
    have hl1 := hm l (List.mem_cons_self ..)
    obtain ⟨u, e1, h4, h5⟩ := fault_step h1
    rw [accG_cons, e1] at h2
    dsimp only at h2
    rw [List.length_cons] at h3
    refine ⟨_, tg2_ok (okAt hx rfl) (okAt hy rfl), ?_⟩
    dsimp only [List.set]
    repeat fail
    refine tr_call rfl rfl rfl (read_gain_rs (hok l hl1) (by omega) ?_)
    dsimp only [updP, refsOf]
    rw [e1, gainD_some]
    repeat fail
    refine tr_iteD ((show (!decide (tl last < tl u.1)) = false by rw [decide_eq_true h4]; rfl)) ?_
    repeat fail
    refine ⟨_, kvG g, .inr u.1, rfl, rfl, by unfold kvG; rw [List.length_map]; show _ < 2 ^ 24; omega, ?_⟩
    rw [put_kvG]
    exact ⟨⟨putG g u.1 (u.2.1, u.2.2), u.1, some (.p (.int i)), some (.p (.str l)), some (.p (.tup [.str u.1, pairD u.2.1 u.2.2]))⟩, rfl, q, rfl, h5, h2, by have := putG_len g u.1 (u.2.1, u.2.2); show (putG g u.1 (u.2.1, u.2.2)).length + q.length ≤ _; omega, fun l hl => hm l (List.mem_cons_of_mem _ hl), .p, .p, .p⟩
  · rintro i ⟨g, last, x, y, z⟩ ⟨q, e, h1, h2, h3, hm, hx, hy, hz⟩
    cases q with
    | cons l q => cases e
    | nil =>
    have h4 : g = accG ls [] := h2
    rw [← h4] at h
    repeat fail
    exact h
theorem read_gains_ex {s : Str} {n k : Nat} (hs : SOk n s) (hn : n ≤ 1000000) (hne : s ≠ "") (hok : ∀ l ∈ spS 10 s, SOk 1000 l) (hf : faultL (spS 10 s) "" 0 = k) (hk : k ≠ 0) : m_read_gains [.p (.str s)] = .ex ⟨"BadText", some ("line", .int (k : Nat))⟩ := by
  have hlen := (spS_len hs (c := 10)).2
  refine fn_ex rfl ?_
  show TX (b_read_gains [some (.p (.str s)), none, none, none, none, none]) _
  unfold b_read_gains
  refine tx_seq2 ?_
  repeat fail
  refine tx_seq2 ?_
  repeat fail
  refine tr_iteD (decide_eq_false hne) ?_
  repeat fail
  refine tx_seq2 ?_
  repeat fail
  refine tx_seq1 (tx_forM ?_)
  repeat fail
  refine spl_ok hs (by omega) str_nl (by decide) ?_
  rw [split_eq str_nl (by decide)]
  generalize spS 10 s = ls at hok hf hlen ⊢
  repeat fail
  refine tx_for (α := D × Nat) (g := fun p => .tup [.int (p.2 : Nat), p.1])
    (fun r ρ => ∃ (t : RgSt) (q : List Str) (i : Nat), ρ = [some (.p (.str s)), some (.k false (kvG t.g)), some (.p (.str t.last)), t.x, t.y, t.z] ∧ r = (q.map D.str).zipIdx i ∧ faultL q t.last i = k ∧ t.g.length + q.length ≤ ls.length ∧ i + q.length ≤ ls.length ∧ (∀ l ∈ q, l ∈ ls) ∧ OkS t.x ∧ OkS t.y ∧ OkS t.z) ?_ ?_ _ _ ⟨⟨[], "", none, none, none⟩, ls, 0, rfl, rfl, hf, by simp, by simp, fun _ h => h, .n, .n, .n⟩
  · rintro c r _ ⟨⟨g, last, x, y, z⟩, q, i, rfl, e, h1, h3, h6, hm, hx, hy, hz⟩
    dsimp only at h1 h3 hx hy hz
    cases q with
    | nil => cases e
    | cons l q =>
    rw [List.map_cons, List.zipIdx_cons] at e
    obtain ⟨rfl, rfl⟩ := List.cons.inj e
    have hl1 := hm l (List.mem_cons_self ..)
    rw [List.length_cons] at h3 h6
    rw [faultL_cons] at h1
    refine ⟨_, tg2_ok (okAt hx rfl) (okAt hy rfl), ?_⟩
    dsimp only [List.set]
    have hsm : smallD (.int ((i : Int) + 1)) = true := by
      show decide (((i : Int) + 1).natAbs.log2 < 1920) = true
      have h3 : ((i : Int) + 1).natAbs < 2 ^ 200 := by omega
      have h4 := (Nat.log2_lt (n := ((i : Int) + 1).natAbs) (by omega)).mpr h3
      exact decide_eq_true (by omega)
    have bad : k = i + 1 → ∀ ρ1 : Fl.Env, ρ1[3]? = some (some (.p (.int i))) → TX (raisePM "BadText" "line" smallD (op2M addF (varM 3) (pureM (.int 1))) ρ1) ⟨"BadText", some ("line", .int (k : Nat))⟩ := fun hk ρ1 hr => by
      subst hk
      refine tx_raisePM ?_
      refine tr_op2 (tr_var hr (tr_pure ?_))
      exact ⟨by show D.int ((i : Int) + 1) = _; congr 1, hsm⟩
    cases e1 : gainV (spS 32 l) with
    | none =>
      rw [e1] at h1
      left
      refine tx_seq2 ?_
      repeat fail
      refine tr_call rfl rfl rfl (read_gain_rs (hok l hl1) (by omega) ?_)
      dsimp only [updP, refsOf]
      rw [e1]
      unfold gainD
      repeat fail
      refine tx_seq1 (tx_ifM ?_)
      repeat fail
      exact bad h1.symm _ rfl
    | some u =>
      rw [e1] at h1
      dsimp only at h1
      by_cases h4 : tl last < tl u.1
      · right
        rw [if_pos h4] at h1
        repeat fail
        refine tr_call rfl rfl rfl (read_gain_rs (hok l hl1) (by omega) ?_)
        dsimp only [updP, refsOf]
        rw [e1, gainD_some]
        repeat fail
        refine tr_iteD ((show (!decide (tl last < tl u.1)) = false by rw [decide_eq_true h4]; rfl)) ?_
        repeat fail
        refine ⟨_, kvG g, .inr u.1, rfl, rfl, by unfold kvG; rw [List.length_map]; show _ < 2 ^ 24; omega, ?_⟩
        rw [put_kvG]
        exact ⟨rfl, ⟨putG g u.1 (u.2.1, u.2.2), u.1, some (.p (.int i)), some (.p (.str l)), some (.p (.tup [.str u.1, pairD u.2.1 u.2.2]))⟩, q, i + 1, rfl, rfl, h1, by have := putG_len g u.1 (u.2.1, u.2.2); show (putG g u.1 (u.2.1, u.2.2)).length + q.length ≤ _; omega, by omega, fun l hl => hm l (List.mem_cons_of_mem _ hl), .p, .p, .p⟩
      · rw [if_neg h4] at h1
        left
        refine tx_seq2 ?_
        repeat fail
        refine tr_call rfl rfl rfl (read_gain_rs (hok l hl1) (by omega) ?_)
        dsimp only [updP, refsOf]
        rw [e1, gainD_some]
        repeat fail
        refine tx_seq1 (tx_ifM ?_)
        repeat fail
        refine tr_iteC ((show (!decide (tl last < tl u.1)) = true by rw [decide_eq_false h4]; rfl)) ?_
        repeat fail
        exact bad h1.symm _ rfl
  · rintro _ ⟨⟨g, last, x, y, z⟩, q, i, rfl, e, h1, h3, h6, hm, hx, hy, hz⟩
    cases q with
    | cons l q => cases e
    | nil => exact hk h1.symm

end Lk
end

section
set_option Elab.async false
set_option linter.all false
set_option maxRecDepth 100000
set_option autoImplicit false
set_option maxHeartbeats 1000000
namespace Lk
open Fl PySem
local macro_rules | `(tactic| fail) => `(tactic| first
  | with_reducible first
    | refine tr_seqS ?_ | refine tr_op2 ?_ | refine tr_pure ?_ | refine tr_setM ?_ | refine tr_ifM ?_ | refine tr_boolM ?_ | refine tr_callB ?_ | refine tr_consM ?_ | refine tr_setIxM ?_ | refine tr_andM ?_ | refine tr_orM ?_ | refine tr_notM ?_ | refine tr_retM ?_
    | refine tr_frzM ?_ | refine tr_callM ?_ | refine tr_consR ?_ | refine tr_argV ?_ | refine tr_forM ?_ | refine tr_itM ?_ | refine tr_setO ?_ | refine tr_lstM ?_ | refine tr_tupM ?_ | refine tr_bind ?_
    | refine tr_splS ?_ | refine tr_setKM ?_ | refine tr_inKM ?_ | refine tr_getM ?_ | refine tr_catM ?_ | refine tr_joinM ?_ | refine tr_inQM ?_ | refine tr_landV ?_ | refine tr_landM ?_ | refine tr_lorM ?_ | refine tr_bM ?_ | refine tr_ownC ?_ | refine tr_retO ?_ | refine tr_exprM ?_ | refine tr_seqM ?_ | refine tr_qM ?_ | refine tr_qN ?_ | refine tr_isiM ?_ | refine tr_negM ?_ | refine tr_bitsM ?_ | refine tr_partM ?_ | refine tr_slM ?_ | refine tr_chainL ?_ | refine tr_iteT ?_ | refine tr_iteF ?_ | refine tr_iteNF ?_ | refine tr_iteNT ?_ | refine tr_parM ?_
    | refine tr_consN ?_ | refine tr_newM ?_ | refine tr_callN ?_ | refine tr_asgM ?_ | refine tr_lcM ?_
  | ((with_reducible refine' tr_var ?e ?k); (case e => exact rfl))
  | with_reducible refine tr_chainM ?_
  | ((with_reducible refine' tr_ixOM ?e ?k); (case e => exact rfl))
  | ((with_reducible refine' tr_ixKM ?e ?k); (case e => exact rfl))
  | ((with_reducible refine' tr_frzSk ?e ?k); (case e => exact rfl); dsimp only [List.set])
  | ((with_reducible refine' tr_frzS ?e ?k); (case e => exact rfl); dsimp only [List.set])
  | ((with_reducible refine' tr_retVk ?e ?k); (case e => exact rfl))
  | ((with_reducible refine' tr_argR ?e ?f ?k); (case e => exact rfl); (case f => exact rfl))
  | ((with_reducible refine' tr_argB ?e ?f ?k); (case e => exact rfl); (case f => exact rfl))
  | ((with_reducible refine' tr_appM ?e ?k); (case e => exact rfl))
  | ((with_reducible refine' tr_retV ?e ?k); (case e => exact rfl))
  | ((with_reducible refine' tr_ownM ?e ?k); (case e => exact rfl))
  | ((with_reducible refine' tr_opt ?e ?k); (case e => exact rfl))
  | with_reducible refine tr_mul (by first | exact .inl (.inr ⟨by decide, by decide⟩) | exact .inl (.inl ⟨by omega, by omega⟩)) ?_
  | with_reducible refine tr_mod (by first | decide | omega) ?_
  | with_reducible refine tr_fdiv (by first | decide | assumption) ?_
  | ((with_reducible refine' ⟨_, _, _, _, ?e, ?f, ?g, ?k⟩); (case e => exact rfl); (case f => exact rfl); (case g => exact rfl); dsimp only [List.set])
  | ((with_reducible refine' ⟨_, _, (?e : _ = some (some (Dv.o _ _))), ?k⟩); (case e => exact rfl))
  | ((with_reducible refine' ⟨?e, ?k⟩); (case e => (with_reducible show okSlot _ _ = true); exact rfl); dsimp only [List.set])
  | ((with_reducible refine' ⟨?e, ?k⟩); (case e => (with_reducible show isO _ _ = true); exact rfl))
  | ((with_reducible refine' ⟨?e, ?k⟩); (case e => (with_reducible show List.length _ ≤ sizeLine); exact le_sz rfl))
  | ((with_reducible refine' ⟨?e, ?k⟩); (case e => (with_reducible show noIo _ _ = true); exact rfl))
  | ((with_reducible refine' ⟨okAt ?h ?e, ?k⟩); (case e => exact rfl); (case h => assumption); dsimp only [List.set])
  | ((with_reducible refine' ⟨noIoAt ?h ?e, ?k⟩); (case e => exact rfl); (case h => assumption))
  | ((with_reducible refine' ⟨_, (?e : _ = some (some (Dv.p _))), ?k⟩); (case e => exact rfl))
  | ((with_reducible refine' ⟨?e, ?k⟩); (case e => (with_reducible show isK _ _ = true); exact rfl)))
open TL (tl)
theorem cat_lst {xs ys : List D} (h : xs.length + ys.length ≤ 1000000) : (((seqF (.lst xs)).bind fun q => catQ q (.l, ys)).map fun z => Dv.o false z) = some (.o false (xs ++ ys)) := by
  show ((if xs.length + ys.length ≤ sizeLine then some (xs ++ ys) else none).map fun z => Dv.o false z) = _
  rw [if_pos (by show _ ≤ 2 ^ 24; omega)]
  rfl
theorem appS (rs : List Str) (r : Str) : rs.map D.str ++ [D.str r] = (rs ++ [r]).map D.str := by rw [List.map_append]; rfl
theorem read_or_ok {s : Str} {kvs : List (L2.Key × D)} {P : Dv → List Dv → Prop} (hr : ∀ P : Dv → List Dv → Prop, P (.k false kvs) [.p (.str s)] → RS (m_read_gains [.p (.str s)]) P) (h : P (.k false kvs) [.p (.str s)]) : RS (m__law_read_or [.p (.str s)]) P := by
  refine rs_fn rfl ?_
  show Tr (b__law_read_or [some (.p (.str s)), none]) _
  unfold b__law_read_or
  refine tr_try_ok ?_
  repeat fail
  refine tr_call rfl rfl rfl (hr _ ?_)
  dsimp only [updP, refsOf]
  repeat fail
  exact h
theorem read_or_ex {s : Str} {k : Nat} {P : Dv → List Dv → Prop} (hr : m_read_gains [.p (.str s)] = .ex ⟨"BadText", some ("line", .int (k : Nat))⟩) (h : P (.p (.lst [.int (k : Nat), .bl false])) [.p (.str s)]) : RS (m__law_read_or [.p (.str s)]) P := by
  refine rs_fn rfl ?_
  show Tr (b__law_read_or [some (.p (.str s)), none]) _
  unfold b__law_read_or
  refine tr_try_ex (retO_x (callM_at rfl (callC_ex rfl rfl rfl hr))) ?_
  refine tr_hand (show cat_BadText.lookup ("BadText" : Str) = some true by decide +kernel) rfl rfl ?_
  repeat fail
  refine tr_excM (d := .int (k : Nat)) rfl (by unfold fldF; rw [if_pos (show tab_line.contains ("BadText" : Str) = true by decide +kernel)]; dsimp only; rw [if_pos rfl]) ?_
  repeat fail
  refine tr_excM rfl (congrArg (Option.map D.bl) (show tab_is_BadGame.lookup ("BadText" : Str) = some false by decide +kernel)) ?_
  repeat fail
  exact h
/-! ### the texts written -/
def textG (g : Gs) : Str := joinS 10 ((sortG g).map lineG)
def GainsOk (g : Gs) : Prop := ∀ q ∈ g, GainOk q
theorem GainsOk.sort {g : Gs} (h : GainsOk g) : GainsOk (sortG g) := fun q hq => h q ((sortG_perm g).mem_iff.mp hq)
theorem sort_names (g : Gs) : (sortS (nmG g)).map D.str = (sortG g).map fun q => D.str q.1 := by
  rw [← nm_sortG]
  unfold nmG
  rw [List.map_map]
  rfl
theorem gain5 : SOk 5 ("gain " : Str) := ⟨by decide +kernel, by decide +kernel⟩
theorem sp1 : SOk 1 (" " : Str) := ⟨by decide +kernel, by decide +kernel⟩
theorem sl1 : SOk 1 ("/" : Str) := ⟨by decide +kernel, by decide +kernel⟩
structure FgSt where
  ls : List Str
  x : Option Dv
  y : Option Dv
  z : Option Dv
theorem lines_ok {g : Gs} (h : GainsOk g) : ∀ s ∈ g.map lineG, SOk 128 s := fun s hs => by
  obtain ⟨q, hq, rfl⟩ := List.mem_map.mp hs
  exact lineG_ok (h q hq)
theorem format_gains_rs {g : Gs} {P : Dv → List Dv → Prop} (hg : GOk g) (hq : GainsOk g) (h : P (.p (.str (textG g))) [.p (.dct (kvG g))]) : RS (m_format_gains [.p (.dct (kvG g))]) P := by
  refine rs_fn rfl ?_
  show Tr (b_format_gains [some (.p (.dct (kvG g))), none, none, none, none]) _
  unfold b_format_gains
  repeat fail
  refine tr_opt (sortKF_kvG hg) ?_
  rw [sort_names]
  repeat fail
  refine tr_forS (σ := FgSt) (fun t => [some (.p (.dct (kvG g))), some (.o false (t.ls.map D.str)), t.x, t.y, t.z])
    (fun r t => (∃ p, sortG g = p ++ r ∧ t.ls = p.map lineG) ∧ OkS t.x ∧ OkS t.y ∧ OkS t.z) (sortG g) ⟨[], none, none, none⟩ _ ⟨⟨[], rfl, rfl⟩, .n, .n, .n⟩ rfl ?_ ?_
  · rintro q r ⟨ls, x, y, z⟩ ⟨⟨p, e, e2⟩, hx, hy, hz⟩
    dsimp only at e2 hx hy hz
    subst e2
    have hm : q ∈ sortG g := by rw [e]; simp
    have hm2 : q ∈ g := (sortG_perm g).mem_iff.mp hm
    have ho := hq q hm2
    refine ⟨_, tgN_ok (okAt hx rfl), ?_⟩
    dsimp only [List.set]
    repeat fail
    refine tr_opt (show ixF (.dct (kvG g)) (D.str q.1) = some (pairD q.2.1 q.2.2) from kvD_kvG hg.d q hm2) ?_
    refine ⟨_, tg2_ok (okAt hy rfl) (okAt hz rfl), ?_⟩
    dsimp only [List.set]
    repeat fail
    refine tr_addS gain5 ho.s (by omega) fun z1 => ?_
    repeat fail
    refine tr_addS z1 sp1 (by omega) fun z1 => ?_
    repeat fail
    refine tr_opt (str_int ho.a) ?_
    repeat fail
    refine tr_addS z1 (strI_ok ho.a) (by omega) fun z1 => ?_
    repeat fail
    refine tr_addS z1 sp1 (by omega) fun z1 => ?_
    repeat fail
    refine tr_opt (str_int ho.b) ?_
    repeat fail
    refine tr_addS z1 (strI_ok ho.b) (by omega) fun z1 => ?_
    repeat fail
    rw [lineG_add]
    have hlen : p.length < 900 := by
      have h1 := hg.l
      have h2 := (sortG_perm g).length_eq
      rw [e, List.length_append, List.length_cons] at h2
      omega
    refine ⟨by rw [List.length_map, List.length_map]; show _ < 2 ^ 24; omega, ⟨p.map lineG ++ [lineG q], some (.p (.str q.1)), some (.p (.int q.2.1)), some (.p (.int q.2.2))⟩, by rw [appS]; rfl, ⟨p ++ [q], by rw [e, List.append_assoc]; rfl, by rw [List.map_append]; rfl⟩, .p, .p, .p⟩
  · rintro ⟨ls, x, y, z⟩ ⟨⟨p, e, e2⟩, hx, hy, hz⟩
    dsimp only at e2
    rw [List.append_nil] at e
    subst e2
    rw [← e]
    repeat fail
    refine tr_opt (joinF_is (m := 128) str_nl (lines_ok hq.sort) (by rw [List.length_map, (sortG_perm g).length_eq]; have := hg.l; omega) (by omega) _) ?_
    repeat fail
    exact h
theorem format_fraction_rs {p : Int × Int} {P : Dv → List Dv → Prop} (hp : FrOk p) (h : P (.p (.str (strP p))) [.p (pairD p.1 p.2)]) : RS (m_format_fraction [.p (pairD p.1 p.2)]) P := by
  refine rs_fn rfl ?_
  show Tr (b_format_fraction [some (.p (pairD p.1 p.2))]) _
  unfold b_format_fraction
  unfold pairD at h ⊢
  repeat fail
  refine tr_opt (str_int hp.big.1) ?_
  repeat fail
  refine tr_addS (strI_ok hp.big.1) sl1 (by omega) fun z1 => ?_
  repeat fail
  refine tr_opt (str_int hp.big.2) ?_
  repeat fail
  refine tr_addS z1 (strI_ok hp.big.2) (by omega) fun z1 => ?_
  repeat fail
  exact h
/-- a comprehension over values that are not texts -/
theorem tr_each {α : Type} {g V : α → D} {ws : List α} (hl : ws.length ≤ 1000000) {P : List D → Fl.Env → Prop} {me : M D} {k : Nat} {pre post : Fl.Env} (hk : pre.length = k)
    (hme : ∀ x ∈ ws, ∀ Q : D → Fl.Env → Prop, Q (V x) (pre ++ [some (Dv.p (g x))] ++ post) → Tr (me (pre ++ [some (Dv.p (g x))] ++ post)) Q)
    (h : P (ws.map V) (pre ++ [none] ++ post)) : Tr (lcL [k] (tgN k) (pureM true) me (ws.map g) [] (pre ++ [none] ++ post)) P := by
  subst hk
  have hset : ∀ (x y : Option Dv), (pre ++ [x] ++ post).set pre.length y = pre ++ [y] ++ post := fun x y => by simp
  have hget : ∀ x : Option Dv, (pre ++ [x] ++ post)[pre.length]? = some x := fun x => by simp
  refine tr_lcS (σ := Unit) (fun _ => pre ++ [none] ++ post) (fun q acc _ => ∃ p, ws = p ++ q ∧ acc = p.map V) ws () _ ⟨[], rfl, rfl⟩ rfl ?_ ?_
  · rintro x q acc _ ⟨p, e, rfl⟩
    have hx : x ∈ ws := by rw [e]; simp
    refine ⟨_, tgN_ok (okAt .n (hget none)), ?_⟩
    rw [hset]
    refine tr_pure ?_
    rw [if_pos rfl]
    refine hme x hx _ ?_
    refine ⟨?_, noIoAt (x := some (Dv.p (g x))) .p (hget _), (), ?_, p ++ [x], ?_, ?_⟩
    · rw [List.length_map]
      have := congrArg List.length e
      rw [List.length_append, List.length_cons] at this
      show _ < 2 ^ 24
      omega
    · show (pre ++ [some (Dv.p (g x))] ++ post).set pre.length none = _
      rw [hset]
    · rw [e, List.append_assoc]; rfl
    · rw [List.map_append]; rfl
  · rintro acc _ ⟨p, e, rfl⟩
    rw [List.append_nil] at e
    subst e
    exact h
theorem format_lot_rs {ws : List Int} {P : Dv → List Dv → Prop} (hw : LotOk ws) (h : P (.p (.str (lineL ws))) [.p (.tup (ws.map D.int))]) : RS (m_format_lot [.p (.tup (ws.map D.int))]) P := by
  refine rs_fn rfl ?_
  show Tr (b_format_lot [some (.p (.tup (ws.map D.int))), none]) _
  unfold b_format_lot
  have hl := hw.l
  repeat fail
  refine tr_each (pre := [some (.p (.tup (ws.map D.int)))]) (post := []) (ws := ws) (g := D.int) (V := fun w => D.str (strI w)) (by omega) rfl ?_ ?_
  · intro x hx Q hQ
    repeat fail
    refine tr_opt (str_int (lot_big hw x hx)) ?_
    exact hQ
  repeat fail
  refine tr_opt (cat_lst (by rw [List.length_map]; show 1 + _ ≤ _; omega)) ?_
  repeat fail
  have e : [D.str "lot"] ++ ws.map (fun w => D.str (strI w)) = (("lot" : Str) :: ws.map strI).map D.str := by
    rw [List.map_cons, List.map_map]; rfl
  rw [e]
  refine tr_opt (joinF_is (m := 63) str_sp (wordsL_ok hw) (by rw [List.length_cons, List.length_map]; omega) (by omega) _) ?_
  repeat fail
  exact h
theorem format_parts_rs {ps : List (Int × Int)} {P : Dv → List Dv → Prop} (hp : ∀ p ∈ ps, FrOk p) (hl : ps.length ≤ 4) (h : P (.p (.str (lineP ps))) [.p (.str "prices"), .p (.tup (ps.map fun p => pairD p.1 p.2))]) : RS (m_format_parts [.p (.str "prices"), .p (.tup (ps.map fun p => pairD p.1 p.2))]) P := by
  refine rs_fn rfl ?_
  show Tr (b_format_parts [some (.p (.str "prices")), some (.p (.tup (ps.map fun p => pairD p.1 p.2))), none]) _
  unfold b_format_parts
  repeat fail
  refine tr_each (pre := [some (.p (.str "prices")), some (.p (.tup (ps.map fun p => pairD p.1 p.2)))]) (post := []) (ws := ps) (g := fun p : Int × Int => pairD p.1 p.2) (V := fun p => D.str (strP p)) (by omega) rfl ?_ ?_
  · intro x hx Q hQ
    repeat fail
    refine tr_call rfl rfl rfl (format_fraction_rs (hp x hx) ?_)
    dsimp only [updP, refsOf]
    repeat fail
    exact hQ
  repeat fail
  refine tr_opt (cat_lst (by rw [List.length_map]; show 1 + _ ≤ _; omega)) ?_
  repeat fail
  have e : [D.str "prices"] ++ ps.map (fun w => D.str (strP w)) = (("prices" : Str) :: ps.map strP).map D.str := by
    rw [List.map_cons, List.map_map]; rfl
  rw [e]
  refine tr_opt (joinF_is (m := 63) str_sp (wordsP_ok hp) (by rw [List.length_cons, List.length_map]; omega) (by omega) _) ?_
  repeat fail
  exact h

end Lk
end

section
set_option Elab.async false
set_option linter.all false
set_option maxRecDepth 100000
set_option autoImplicit false
set_option maxHeartbeats 1000000
namespace Lk
open Fl PySem
local macro_rules | `(tactic| fail) => `(tactic| first
  | with_reducible first
    | refine tr_seqS ?_ | refine tr_op2 ?_ | refine tr_pure ?_ | refine tr_setM ?_ | refine tr_ifM ?_ | refine tr_boolM ?_ | refine tr_callB ?_ | refine tr_consM ?_ | refine tr_setIxM ?_ | refine tr_andM ?_ | refine tr_orM ?_ | refine tr_notM ?_ | refine tr_retM ?_
    | refine tr_frzM ?_ | refine tr_callM ?_ | refine tr_consR ?_ | refine tr_argV ?_ | refine tr_forM ?_ | refine tr_itM ?_ | refine tr_setO ?_ | refine tr_lstM ?_ | refine tr_tupM ?_ | refine tr_bind ?_
    | refine tr_splS ?_ | refine tr_setKM ?_ | refine tr_inKM ?_ | refine tr_getM ?_ | refine tr_catM ?_ | refine tr_joinM ?_ | refine tr_inQM ?_ | refine tr_landV ?_ | refine tr_landM ?_ | refine tr_lorM ?_ | refine tr_bM ?_ | refine tr_ownC ?_ | refine tr_retO ?_ | refine tr_exprM ?_ | refine tr_seqM ?_ | refine tr_qM ?_ | refine tr_qN ?_ | refine tr_isiM ?_ | refine tr_negM ?_ | refine tr_bitsM ?_ | refine tr_partM ?_ | refine tr_slM ?_ | refine tr_chainL ?_ | refine tr_iteT ?_ | refine tr_iteF ?_ | refine tr_iteNF ?_ | refine tr_iteNT ?_ | refine tr_parM ?_
    | refine tr_consN ?_ | refine tr_newM ?_ | refine tr_callN ?_ | refine tr_asgM ?_ | refine tr_lcM ?_
  | ((with_reducible refine' tr_var ?e ?k); (case e => exact rfl))
  | with_reducible refine tr_chainM ?_
  | ((with_reducible refine' tr_ixOM ?e ?k); (case e => exact rfl))
  | ((with_reducible refine' tr_ixKM ?e ?k); (case e => exact rfl))
  | ((with_reducible refine' tr_frzSk ?e ?k); (case e => exact rfl); dsimp only [List.set])
  | ((with_reducible refine' tr_frzS ?e ?k); (case e => exact rfl); dsimp only [List.set])
  | ((with_reducible refine' tr_retVk ?e ?k); (case e => exact rfl))
  | ((with_reducible refine' tr_argR ?e ?f ?k); (case e => exact rfl); (case f => exact rfl))
  | ((with_reducible refine' tr_argB ?e ?f ?k); (case e => exact rfl); (case f => exact rfl))
  | ((with_reducible refine' tr_appM ?e ?k); (case e => exact rfl))
  | ((with_reducible refine' tr_retV ?e ?k); (case e => exact rfl))
  | ((with_reducible refine' tr_ownM ?e ?k); (case e => exact rfl))
  | ((with_reducible refine' tr_opt ?e ?k); (case e => exact rfl))
  | with_reducible refine tr_mul (by first | exact .inl (.inr ⟨by decide, by decide⟩) | exact .inl (.inl ⟨by omega, by omega⟩)) ?_
  | with_reducible refine tr_mod (by first | decide | omega) ?_
  | with_reducible refine tr_fdiv (by first | decide | assumption) ?_
  | ((with_reducible refine' ⟨_, _, _, _, ?e, ?f, ?g, ?k⟩); (case e => exact rfl); (case f => exact rfl); (case g => exact rfl); dsimp only [List.set])
  | ((with_reducible refine' ⟨_, _, (?e : _ = some (some (Dv.o _ _))), ?k⟩); (case e => exact rfl))
  | ((with_reducible refine' ⟨?e, ?k⟩); (case e => (with_reducible show okSlot _ _ = true); exact rfl); dsimp only [List.set])
  | ((with_reducible refine' ⟨?e, ?k⟩); (case e => (with_reducible show isO _ _ = true); exact rfl))
  | ((with_reducible refine' ⟨?e, ?k⟩); (case e => (with_reducible show List.length _ ≤ sizeLine); exact le_sz rfl))
  | ((with_reducible refine' ⟨?e, ?k⟩); (case e => (with_reducible show noIo _ _ = true); exact rfl))
  | ((with_reducible refine' ⟨okAt ?h ?e, ?k⟩); (case e => exact rfl); (case h => assumption); dsimp only [List.set])
  | ((with_reducible refine' ⟨noIoAt ?h ?e, ?k⟩); (case e => exact rfl); (case h => assumption))
  | ((with_reducible refine' ⟨_, (?e : _ = some (some (Dv.p _))), ?k⟩); (case e => exact rfl))
  | ((with_reducible refine' ⟨?e, ?k⟩); (case e => (with_reducible show isK _ _ = true); exact rfl)))
open TL (tl)
def WOk (n : Nat) (w : Str) : Prop := SOk n w ∧ 10 ∉ tl w
theorem WOk.mono {n m : Nat} {w : Str} (h : WOk n w) (hl : n ≤ m) : WOk m w := ⟨h.1.mono hl, h.2⟩
def LnOk (l : Str) : Prop := SOk 700 l ∧ (∀ w ∈ spS 32 l, WOk 63 w) ∧ (spS 32 l).length ≤ 9
def BtOk (l : Str) : Prop := SOk 700 l ∧ 10 ∉ tl l
theorem bt_of {L : List Str} (h : ∀ w ∈ L, WOk 64 w) (hl : L.length ≤ 10) : BtOk (joinS 32 L) := by
  refine ⟨(joinS_ok (k := 10) (m := 64) (c := 32) (by decide) (fun s hs => (h s hs).1) hl).mono (by omega), fun z => ?_⟩
  rcases joinL_mem 32 _ _ z with h1 | ⟨l, h1, h2⟩
  · omega
  · obtain ⟨s, hs, rfl⟩ := List.mem_map.mp h1
    exact (h s hs).2 h2
def isW (n : Nat) : D → Bool
  | .str s => decide (s.length ≤ n) && (PyData.strOk s && !decide (10 ∈ tl s))
  | _ => false
theorem isW_ok {n : Nat} {d : D} (h : isW n d = true) : ∃ s, d = .str s ∧ WOk n s := by
  cases d with
  | str s =>
    unfold isW at h
    rw [Bool.and_eq_true, Bool.and_eq_true] at h
    exact ⟨s, rfl, ⟨of_decide_eq_true h.1, h.2.1⟩, by simpa using h.2.2⟩
  | _ => cases h
theorem mulS_opt {a : Str} {k : Int} (h : (0 ≤ k ∧ k ≤ 1000) ∧ a.length ≤ 1000) : mulSF (.str a) (.int k) = some (.str (Txt.mul a k)) := by
  unfold mulSF; dsimp only; rw [if_pos h]
theorem takeS (ws : List Str) (k : Nat) : cutD (ws.map D.str) none (some (k : Int)) = (ws.take k).map D.str := by rw [cut_take, List.map_take]
theorem dropS (ws : List Str) (k : Nat) : cutD (ws.map D.str) (some (k : Int)) none = (ws.drop k).map D.str := by rw [cut_drop, List.map_drop]
theorem dropS1 (ws : List Str) (k : Nat) : cutD (ws.map D.str) (some ((k : Int) + 1)) none = (ws.drop (k + 1)).map D.str := dropS ws (k + 1)
theorem bent_rs {ns : List Int} {s0 : List D} {l : Str} {P : Dv → List Dv → Prop} (hs : SrcOk s0) (hl : LnOk l)
    (h : ∀ (b : Str) (s' : List D), SrcOk s' → BtOk b → P (.p (.str b)) [.p (.scr ns), .o true s', .p (.str l)]) :
    RS (m__law_bent [.p (.scr ns), .o true s0, .p (.str l)]) P := by
  obtain ⟨h1, h2, h3⟩ := hl
  refine rs_fn rfl ?_
  show Tr (b__law_bent [some (.p (.scr ns)), some (.o true s0), some (.p (.str l)), none, none, none, none, none]) _
  unfold b__law_bent
  repeat fail
  refine spl_ok h1 (by omega) str_sp (by decide) ?_
  rw [split_eq str_sp (by decide)]
  have hlen := (spS_len h1 (c := 32)).1
  generalize spS 32 l = ws at h2 h3 hlen ⊢
  repeat fail
  show Tr (callC m__law_draw [.v (.scr ns), .r 1, .v (.int (((ws.map D.str).length : Nat) : Int))] _) _
  rw [List.length_map]
  refine tr_drawS rfl hs (by omega) (by omega) fun v s hv0 hv1 hs => ?_
  dsimp only [List.set]
  repeat fail
  refine tr_drawS rfl hs (by decide) (by decide) fun kind s hkind0 hkind1 hs => ?_
  dsimp only [List.set]
  repeat fail
  refine tr_drawS rfl hs (by decide) (by decide) fun u s hu0 hu1 hs => ?_
  dsimp only [List.set]
  repeat fail
  refine tr_ixLst hu0 (by show u < 14; exact hu1) fun z hz => ?_
  obtain ⟨nw, rfl, hnw⟩ := isW_ok (n := 41) (List.all_eq_true.mp (show List.all [D.str "", D.str "-0", D.str "00", D.str "1/0", D.str "2/4", D.str "-1/3", D.str "gain", D.str "lot", D.str "A", D.str "0", D.str "-5", D.str (Txt.mul "9" 41), D.str "1/", D.str "a"] (isW 41) = true by decide +kernel) z hz)
  clear hz
  obtain ⟨k, rfl⟩ : ∃ k : Nat, v = k := ⟨v.toNat, by omega⟩
  have hk : k < ws.length := by omega
  have ht : ∀ w ∈ ws.take k, WOk 64 w := fun w hw => (h2 w (List.mem_of_mem_take hw)).mono (by omega)
  have hd : ∀ j, ∀ w ∈ ws.drop j, WOk 64 w := fun j w hw => (h2 w (List.mem_of_mem_drop hw)).mono (by omega)
  have ltk : (ws.take k).length = k := by rw [List.length_take]; omega
  have ldk : ∀ j, (ws.drop j).length = ws.length - j := fun j => List.length_drop ..
  -- the end
  have fin : ∀ (L : List Str) (X : List D) (s : List D), SrcOk s → X = L.map D.str → (∀ w ∈ L, WOk 64 w) → L.length ≤ 10 → ∀ ρ : Fl.Env, ρ[3]? = some (some (.p (.lst X))) → outs [Dv.p (.scr ns), .o true s0, .p (.str l)] ρ = [Dv.p (.scr ns), .o true s, .p (.str l)] →
      Tr (retM (joinM (pureM (.str " ")) (seqM (varM 3))) ρ) fun fl ρ => match fl with
        | .ret w => P w (outs [Dv.p (.scr ns), .o true s0, .p (.str l)] ρ)
        | .nx => P (.p .non) (outs [Dv.p (.scr ns), .o true s0, .p (.str l)] ρ)
        | _ => False := fun L X s hs e hL hl2 ρ e3 eo => by
    subst e
    refine tr_retM (tr_joinM (tr_seqM (tr_var e3 (tr_opt rfl ?_))))
    refine tr_opt (joinF_is (m := 64) str_sp (fun s hs => (hL s hs).1) (by omega) (by omega) _) ?_
    show P _ (outs _ ρ)
    rw [eo]
    exact h _ _ hs (bt_of hL hl2)
  have mem2 : ∀ (A B : List Str), (∀ w ∈ A, WOk 64 w) → (∀ w ∈ B, WOk 64 w) → ∀ w ∈ A ++ B, WOk 64 w := fun A B hA hB w hw => by
    rcases List.mem_append.mp hw with z | z
    · exact hA w z
    · exact hB w z
  have one : ∀ x : Str, WOk 64 x → ∀ w ∈ [x], WOk 64 w := fun x hx w hw => by rw [List.mem_singleton.mp hw]; exact hx
  repeat fail
  refine tr_ite (fun q1 => ?_) (fun q1 => ?_)
  · repeat fail
    rw [takeS, dropS1]
    refine tr_addL (by rw [List.length_map, List.length_map, ltk, ldk]; omega) ?_
    refine ⟨rfl, ?_⟩
    exact fin (ws.take k ++ ws.drop (k + 1)) _ s hs (by rw [List.map_append]) (mem2 _ _ ht (hd _)) (by rw [List.length_append, ltk, ldk]; omega) _ rfl rfl
  repeat fail
  refine tr_ite (fun q2 => ?_) (fun q2 => ?_)
  · repeat fail
    rw [takeS]
    refine tr_opt (cat_lst (by rw [List.length_map, ltk]; show k + 1 ≤ _; omega)) ?_
    repeat fail
    rw [dropS]
    refine tr_opt (cat_lst (by rw [List.length_append, List.length_map, List.length_map, ltk, ldk]; show k + 1 + _ ≤ _; omega)) ?_
    refine tr_opt rfl ?_
    refine ⟨rfl, ?_⟩
    exact fin (ws.take k ++ [nw] ++ ws.drop k) ((ws.take k).map D.str ++ [D.str nw] ++ (ws.drop k).map D.str) s hs (by rw [List.map_append, List.map_append]; rfl) (mem2 _ _ (mem2 _ _ ht (one _ (hnw.mono (by omega)))) (hd _)) (by rw [List.length_append, List.length_append, ltk, ldk]; show k + 1 + _ ≤ _; omega) _ rfl rfl
  repeat fail
  refine tr_ite (fun q3 => ?_) (fun q3 => ?_)
  · repeat fail
    rw [takeS]
    refine tr_opt (cat_lst (by rw [List.length_map, ltk]; show k + 1 ≤ _; omega)) ?_
    repeat fail
    rw [dropS1]
    refine tr_opt (cat_lst (by rw [List.length_append, List.length_map, List.length_map, ltk, ldk]; show k + 1 + _ ≤ _; omega)) ?_
    refine tr_opt rfl ?_
    refine ⟨rfl, ?_⟩
    exact fin (ws.take k ++ [nw] ++ ws.drop (k + 1)) ((ws.take k).map D.str ++ [D.str nw] ++ (ws.drop (k + 1)).map D.str) s hs (by rw [List.map_append, List.map_append]; rfl) (mem2 _ _ (mem2 _ _ ht (one _ (hnw.mono (by omega)))) (hd _)) (by rw [List.length_append, List.length_append, ltk, ldk]; show k + 1 + _ ≤ _; omega) _ rfl rfl
  · repeat fail
    refine tr_opt (ix_lst (itemLs ws hk)) ?_
    repeat fail
    refine tr_drawS rfl hs (by decide) (by decide) fun j s hj0 hj1 hs => ?_
    dsimp only [List.set]
    repeat fail
    refine tr_ixLst hj0 (by show j < 5; exact hj1) fun z hz => ?_
    obtain ⟨sg, rfl, hsg⟩ := isW_ok (n := 1) (List.all_eq_true.mp (show List.all [D.str "-", D.str "0", D.str "/", D.str "x", D.str ""] (isW 1) = true by decide +kernel) z hz)
    have hwk := h2 ws[k] (List.getElem_mem hk)
    refine tr_addS hwk.1 hsg.1 (by omega) fun z1 => ?_
    have hnx : WOk 64 (ws[k] ++ sg) := ⟨z1, fun z => by
      rw [TL.tl_append] at z
      rcases List.mem_append.mp z with z | z
      · exact hwk.2 z
      · exact hsg.2 z⟩
    repeat fail
    rw [takeS]
    refine tr_opt (cat_lst (by rw [List.length_map, ltk]; show k + 1 ≤ _; omega)) ?_
    repeat fail
    rw [dropS1]
    refine tr_opt (cat_lst (by rw [List.length_append, List.length_map, List.length_map, ltk, ldk]; show k + 1 + _ ≤ _; omega)) ?_
    refine tr_opt rfl ?_
    refine ⟨rfl, ?_⟩
    exact fin (ws.take k ++ [ws[k] ++ sg] ++ ws.drop (k + 1)) ((ws.take k).map D.str ++ [D.str (ws[k] ++ sg)] ++ (ws.drop (k + 1)).map D.str) s hs (by rw [List.map_append, List.map_append]; rfl) (mem2 _ _ (mem2 _ _ ht (one _ hnx)) (hd _)) (by rw [List.length_append, List.length_append, ltk, ldk]; show k + 1 + _ ≤ _; omega) _ rfl rfl

end Lk
end

section
set_option Elab.async false
set_option linter.all false
set_option maxRecDepth 100000
set_option autoImplicit false
set_option maxHeartbeats 1000000
namespace Lk
open Fl PySem
local macro_rules | `(tactic| fail) => `(tactic| first
  | with_reducible first
    | refine tr_seqS ?_ | refine tr_op2 ?_ | refine tr_pure ?_ | refine tr_setM ?_ | refine tr_ifM ?_ | refine tr_boolM ?_ | refine tr_callB ?_ | refine tr_consM ?_ | refine tr_setIxM ?_ | refine tr_andM ?_ | refine tr_orM ?_ | refine tr_notM ?_ | refine tr_retM ?_
    | refine tr_frzM ?_ | refine tr_callM ?_ | refine tr_consR ?_ | refine tr_argV ?_ | refine tr_forM ?_ | refine tr_itM ?_ | refine tr_setO ?_ | refine tr_lstM ?_ | refine tr_tupM ?_ | refine tr_bind ?_
    | refine tr_splS ?_ | refine tr_setKM ?_ | refine tr_inKM ?_ | refine tr_getM ?_ | refine tr_catM ?_ | refine tr_joinM ?_ | refine tr_inQM ?_ | refine tr_landV ?_ | refine tr_landM ?_ | refine tr_lorM ?_ | refine tr_bM ?_ | refine tr_ownC ?_ | refine tr_retO ?_ | refine tr_exprM ?_ | refine tr_seqM ?_ | refine tr_qM ?_ | refine tr_qN ?_ | refine tr_isiM ?_ | refine tr_negM ?_ | refine tr_bitsM ?_ | refine tr_partM ?_ | refine tr_slM ?_ | refine tr_chainL ?_ | refine tr_iteT ?_ | refine tr_iteF ?_ | refine tr_iteNF ?_ | refine tr_iteNT ?_ | refine tr_parM ?_
    | refine tr_consN ?_ | refine tr_newM ?_ | refine tr_callN ?_ | refine tr_asgM ?_ | refine tr_lcM ?_
  | ((with_reducible refine' tr_var ?e ?k); (case e => exact rfl))
  | with_reducible refine tr_chainM ?_
  | ((with_reducible refine' tr_ixOM ?e ?k); (case e => exact rfl))
  | ((with_reducible refine' tr_ixKM ?e ?k); (case e => exact rfl))
  | ((with_reducible refine' tr_frzSk ?e ?k); (case e => exact rfl); dsimp only [List.set])
  | ((with_reducible refine' tr_frzS ?e ?k); (case e => exact rfl); dsimp only [List.set])
  | ((with_reducible refine' tr_retVk ?e ?k); (case e => exact rfl))
  | ((with_reducible refine' tr_argR ?e ?f ?k); (case e => exact rfl); (case f => exact rfl))
  | ((with_reducible refine' tr_argB ?e ?f ?k); (case e => exact rfl); (case f => exact rfl))
  | ((with_reducible refine' tr_appM ?e ?k); (case e => exact rfl))
  | ((with_reducible refine' tr_retV ?e ?k); (case e => exact rfl))
  | ((with_reducible refine' tr_ownM ?e ?k); (case e => exact rfl))
  | ((with_reducible refine' tr_opt ?e ?k); (case e => exact rfl))
  | with_reducible refine tr_mul (by first | exact .inl (.inr ⟨by decide, by decide⟩) | exact .inl (.inl ⟨by omega, by omega⟩)) ?_
  | with_reducible refine tr_mod (by first | decide | omega) ?_
  | with_reducible refine tr_fdiv (by first | decide | assumption) ?_
  | ((with_reducible refine' ⟨_, _, _, _, ?e, ?f, ?g, ?k⟩); (case e => exact rfl); (case f => exact rfl); (case g => exact rfl); dsimp only [List.set])
  | ((with_reducible refine' ⟨_, _, (?e : _ = some (some (Dv.o _ _))), ?k⟩); (case e => exact rfl))
  | ((with_reducible refine' ⟨?e, ?k⟩); (case e => (with_reducible show okSlot _ _ = true); exact rfl); dsimp only [List.set])
  | ((with_reducible refine' ⟨?e, ?k⟩); (case e => (with_reducible show isO _ _ = true); exact rfl))
  | ((with_reducible refine' ⟨?e, ?k⟩); (case e => (with_reducible show List.length _ ≤ sizeLine); exact le_sz rfl))
  | ((with_reducible refine' ⟨?e, ?k⟩); (case e => (with_reducible show noIo _ _ = true); exact rfl))
  | ((with_reducible refine' ⟨okAt ?h ?e, ?k⟩); (case e => exact rfl); (case h => assumption); dsimp only [List.set])
  | ((with_reducible refine' ⟨noIoAt ?h ?e, ?k⟩); (case e => exact rfl); (case h => assumption))
  | ((with_reducible refine' ⟨_, (?e : _ = some (some (Dv.p _))), ?k⟩); (case e => exact rfl))
  | ((with_reducible refine' ⟨?e, ?k⟩); (case e => (with_reducible show isK _ _ = true); exact rfl)))
open TL (tl)
theorem textG_nil {g : Gs} (h : sortG g = []) : textG g = "" := by unfold textG; rw [h]; decide +kernel
theorem spS_textG {g : Gs} (hq : GainsOk g) (hne : sortG g ≠ []) : spS 10 (textG g) = (sortG g).map lineG := spS_join (by simpa using hne) fun s hs => by
  obtain ⟨q, hm, rfl⟩ := List.mem_map.mp hs
  exact lineG_free (hq.sort q hm)
theorem spS_empty : spS 10 ("" : Str) = [("" : Str)] := by decide +kernel
theorem textG_ne {g : Gs} (hq : GainsOk g) (hne : sortG g ≠ []) : textG g ≠ "" := fun e => by
  have h := spS_textG hq hne
  rw [e, spS_empty] at h
  cases hs : sortG g with
  | nil => exact hne hs
  | cons q r =>
    rw [hs, List.map_cons] at h
    exact lineG_ne q (List.cons.inj h).1.symm
theorem fault_gains : ∀ (r : Gs) (last : Str) (k : Nat), GainsOk r → r.Pairwise (fun p q => tl p.1 < tl q.1) → (∀ q ∈ r, tl last < tl q.1) → faultL (r.map lineG) last k = 0
  | [], _, _, _, _, _ => rfl
  | q :: r, last, k, hq, hp, hl => by
    rw [List.map_cons, faultL_cons, gainV_lineG (hq q (List.mem_cons_self ..))]
    dsimp only
    rw [if_pos (hl q (List.mem_cons_self ..))]
    obtain ⟨h1, h2⟩ := List.pairwise_cons.mp hp
    exact fault_gains r q.1 (k + 1) (fun x hx => hq x (List.mem_cons_of_mem _ hx)) h2 h1
theorem accG_gains : ∀ (r g : Gs), GainsOk r → (nmG (g ++ r)).Nodup → accG (r.map lineG) g = g ++ r
  | [], g, _, _ => by rw [List.append_nil]; rfl
  | q :: r, g, hq, hn => by
    rw [List.map_cons, accG_cons, gainV_lineG (hq q (List.mem_cons_self ..))]
    dsimp only
    have hnot : q.1 ∉ nmG g := fun z => by
      unfold nmG at hn
      rw [List.map_append, List.nodup_append] at hn
      exact hn.2.2 q.1 z q.1 (by rw [List.map_cons]; exact List.mem_cons_self ..) rfl
    rw [putG_new hnot]
    have e : (g ++ [(q.1, q.2.1, q.2.2)]) ++ r = g ++ q :: r := by rw [List.append_assoc]; rfl
    rw [← e] at hn ⊢
    exact accG_gains r _ (fun x hx => hq x (List.mem_cons_of_mem _ hx)) hn
theorem nm_pos {s : Str} (h : isNm s = true) : tl ("" : Str) < tl s := by
  have e : tl ("" : Str) = [] := by decide +kernel
  rw [e]
  unfold isNm at h
  have h : isNmL (tl s) = true := h
  revert h
  cases tl s with
  | nil => intro h; cases h
  | cons c r => intro _; exact List.nil_lt_cons ..
theorem read_text_rs {g : Gs} {P : Dv → List Dv → Prop} (hg : GOk g) (hq : GainsOk g) (h : P (.k false (kvG (sortG g))) [.p (.str (textG g))]) : RS (m_read_gains [.p (.str (textG g))]) P := by
  by_cases hne : sortG g = []
  · rw [textG_nil hne] at h ⊢
    rw [hne] at h
    exact read_gains_empty h
  · have e := spS_textG hq hne
    have hl : (sortG g).length ≤ 900 := hg.sort.l
    have hs : SOk (900 * 129) (textG g) := joinS_ok (k := 900) (m := 128) (c := 10) (by decide) (lines_ok hq.sort) (by rw [List.length_map]; omega)
    refine read_gains_ok hs (by omega) (textG_ne hq hne) (by rw [e]; exact fun l hl => (lines_ok hq.sort l hl).mono (by omega)) ?_ ?_
    · rw [e]
      exact fault_gains _ _ _ hq.sort (sortG_lt hg) fun q hm => nm_pos (hq.sort q hm).n
    · rw [e, accG_gains _ [] hq.sort (by rw [List.nil_append]; exact hg.sort.d), List.nil_append]
      exact h
theorem gainV_mem {ws : List Str} {q : Str × Int × Int} (h : gainV ws = some q) : q.1 ∈ ws := by
  unfold gainV at h
  split at h
  · split at h
    · obtain ⟨i, _, h⟩ := Option.bind_eq_some_iff.mp h
      obtain ⟨j, _, rfl⟩ := Option.map_eq_some_iff.mp h
      simp
    · cases h
  · cases h
theorem accG_ok : ∀ (L : List Str) (g : Gs), GOk g → (∀ l ∈ L, SOk 1000 l) → g.length + L.length ≤ 900 → GOk (accG L g)
  | [], g, hg, _, _ => hg
  | l :: L, g, hg, hL, hl => by
    rw [accG_cons]
    rw [List.length_cons] at hl
    cases e : gainV (spS 32 l) with
    | none => exact hg
    | some q =>
      dsimp only
      have h1 := putG_len g q.1 (q.2.1, q.2.2)
      refine accG_ok L _ ⟨by omega, putG_nodup hg.d, fun x hx => ?_⟩ (fun x hx => hL x (List.mem_cons_of_mem _ hx)) (by omega)
      rcases putG_mem x hx with z | rfl
      · exact hg.n x z
      · exact (spS_ok (hL l (List.mem_cons_self ..)) q.1 (gainV_mem e)).2
theorem fault_all : ∀ (L : List Str) (last : Str) (k : Nat), faultL L last k = 0 → ∀ l ∈ L, ∃ q, gainV (spS 32 l) = some q
  | [], _, _, _, l, hl => by cases hl
  | x :: L, last, k, h, l, hl => by
    obtain ⟨q, h1, _, h3⟩ := fault_step h
    rcases List.mem_cons.mp hl with rfl | hl
    · exact ⟨q, h1⟩
    · exact fault_all L _ _ h3 l hl
/-! ### texts equal -/
theorem eqvs_strs : ∀ (ns ms : List Str), PyData.eqvAll (pys (ns.map D.str)) (pys (ms.map D.str)) = decide (ns = ms)
  | [], [] => by simp [pys, PyData.eqvAll]
  | [], _ :: _ => by simp [pys, PyData.eqvAll]
  | _ :: _, [] => by simp [pys, PyData.eqvAll]
  | n :: ns, m :: ms => by
    simp only [List.map_cons, pys, D.py, PyData.eqvAll, PyData.eqv, eqvs_strs ns ms]
    by_cases h : n = m <;> by_cases h2 : ns = ms <;> simp [h, h2]
theorem eqF_strs {L M : List Str} (h : ∀ s ∈ L, PyData.strOk s = true) (h' : ∀ s ∈ M, PyData.strOk s = true) : eqF (.lst (L.map D.str)) (.lst (M.map D.str)) = some (.bl (decide (L = M))) := by
  have h1 : chk (.lst (L.map D.str)) = true := dat_chk (n := 2) (by unfold dat; exact dats_strs 1 L h) (by omega)
  have h2 : chk (.lst (M.map D.str)) = true := dat_chk (n := 2) (by unfold dat; exact dats_strs 1 M h') (by omega)
  show ((if (chk (.lst (L.map D.str)) && chk (.lst (M.map D.str))) = true then some (PyData.eqv (D.lst (L.map D.str)).py (D.lst (M.map D.str)).py) else none)).map D.bl = _
  rw [h1, h2]
  simp only [D.py, PyData.eqv, eqvs_strs]
  rfl
/-! ### what is told is short -/
theorem shortDs_V {V : Str → D} (h : ∀ x, shortD (V x) = true) : ∀ ws : List Str, shortDs (ws.map V) = true
  | [] => by simp [shortDs]
  | w :: r => by rw [List.map_cons]; unfold shortDs; rw [h w, shortDs_V h r]; rfl
theorem short_nV (x : Str) : shortD (nV x) = true := by unfold nV; cases numV (tl x) <;> rfl
theorem short_zV (x : Str) : shortD (zV x) = true := by unfold zV; cases intV (tl x) <;> rfl
theorem short_fV (x : Str) : shortD (fV x) = true := by unfold fV; cases frcV (tl x) <;> rfl
theorem tup_V {V : Str → D} (h1 : ∀ x, dat 2 (V x) = true) (h2 : ∀ x, shortD (V x) = true) {ws : List Str} (hl : ws.length ≤ 1000000) : dat 3 (.tup (ws.map V)) = true ∧ shortD (.tup (ws.map V)) = true := by
  refine ⟨by unfold dat; exact dats_V h1 ws, ?_⟩
  unfold shortD
  rw [shortDs_V h2, List.length_map, decide_eq_true hl]
  rfl
theorem lotD_dat {w : Str} {r : List Str} (hl : r.length ≤ 1000000) : dat 3 (lotD w r) = true ∧ shortD (lotD w r) = true := by
  unfold lotD
  split
  · exact tup_V dat_nV short_nV hl
  · exact ⟨rfl, rfl⟩
theorem partsD_dat {word w : Str} {r : List Str} (hl : r.length ≤ 1000000) : dat 3 (partsD word w r) = true ∧ shortD (partsD word w r) = true := by
  unfold partsD
  split
  · exact tup_V dat_fV short_fV hl
  · exact ⟨rfl, rfl⟩
theorem gainD_dat {ws : List Str} (h : ∀ w ∈ ws, PyData.strOk w = true) : dat 3 (gainD (gainV ws)) = true ∧ shortD (gainD (gainV ws)) = true := by
  cases e : gainV ws with
  | none => exact ⟨rfl, rfl⟩
  | some q =>
    refine ⟨?_, rfl⟩
    rw [gainD_some]
    simp [dat, dats, pairD, h q.1 (gainV_mem e)]
/-! ### good lines -/
theorem LnOk.gain {q : Str × Int × Int} (h : GainOk q) : LnOk (lineG q) := by
  refine ⟨(lineG_ok h).mono (by omega), ?_, ?_⟩
  · rw [spS_lineG h]
    exact fun w hw => ⟨((partsG_ok h w hw).1).mono (by omega), (partsG_ok h w hw).2.2⟩
  · rw [spS_lineG h]
    show 4 ≤ 9
    omega
theorem strI_10 (x : Int) : 10 ∉ tl (strI x) := fun z => by have := strI_sg _ z; omega
theorem LnOk.lot {ws : List Int} (h : LotOk ws) : LnOk (lineL ws) := by
  refine ⟨(lineL_ok h).mono (by omega), ?_, ?_⟩
  · rw [spS_lineL]
    intro w hw
    refine ⟨wordsL_ok h w hw, ?_⟩
    rcases List.mem_cons.mp hw with rfl | hw
    · decide +kernel
    · obtain ⟨x, _, rfl⟩ := List.mem_map.mp hw
      exact strI_10 x
  · rw [spS_lineL, List.length_cons, List.length_map]
    have := h.l
    omega
theorem LnOk.parts {ps : List (Int × Int)} (h : ∀ p ∈ ps, FrOk p) (hl : ps.length ≤ 4) : LnOk (lineP ps) := by
  refine ⟨(lineP_ok h hl).mono (by omega), ?_, ?_⟩
  · rw [spS_lineP]
    intro w hw
    refine ⟨wordsP_ok h w hw, ?_⟩
    rcases List.mem_cons.mp hw with rfl | hw
    · decide +kernel
    · obtain ⟨x, _, rfl⟩ := List.mem_map.mp hw
      unfold strP
      rw [TL.tl_append, TL.tl_append]
      have e : tl ("/" : Str) = [47] := by decide +kernel
      rw [e]
      intro z
      rcases List.mem_append.mp z with z | z
      · rcases List.mem_append.mp z with z | z
        · exact strI_10 _ z
        · have := List.mem_singleton.mp z; omega
      · exact strI_10 _ z
  · rw [spS_lineP, List.length_cons, List.length_map]
    omega
theorem LnOk.lit : LnOk ("gain ab -12 40" : Str) := by
  refine ⟨⟨by decide +kernel, by decide +kernel⟩, ?_, by decide +kernel⟩
  have h : (spS 32 ("gain ab -12 40" : Str)).all (fun w => isW 63 (.str w)) = true := by decide +kernel
  intro w hw
  obtain ⟨s, e, hs⟩ := isW_ok (List.all_eq_true.mp h w hw)
  cases e
  exact hs

end Lk
end

section
set_option Elab.async false
set_option linter.all false
set_option maxRecDepth 100000
set_option autoImplicit false
set_option maxHeartbeats 1000000
namespace Lk
open Fl PySem
local macro_rules | `(tactic| fail) => `(tactic| first
  | with_reducible first
    | refine tr_seqS ?_ | refine tr_op2 ?_ | refine tr_pure ?_ | refine tr_setM ?_ | refine tr_ifM ?_ | refine tr_boolM ?_ | refine tr_callB ?_ | refine tr_consM ?_ | refine tr_setIxM ?_ | refine tr_andM ?_ | refine tr_orM ?_ | refine tr_notM ?_ | refine tr_retM ?_
    | refine tr_frzM ?_ | refine tr_callM ?_ | refine tr_consR ?_ | refine tr_argV ?_ | refine tr_forM ?_ | refine tr_itM ?_ | refine tr_setO ?_ | refine tr_lstM ?_ | refine tr_tupM ?_ | refine tr_bind ?_
    | refine tr_splS ?_ | refine tr_setKM ?_ | refine tr_inKM ?_ | refine tr_getM ?_ | refine tr_catM ?_ | refine tr_joinM ?_ | refine tr_inQM ?_ | refine tr_landV ?_ | refine tr_landM ?_ | refine tr_lorM ?_ | refine tr_bM ?_ | refine tr_ownC ?_ | refine tr_retO ?_ | refine tr_exprM ?_ | refine tr_seqM ?_ | refine tr_qM ?_ | refine tr_qN ?_ | refine tr_isiM ?_ | refine tr_negM ?_ | refine tr_bitsM ?_ | refine tr_partM ?_ | refine tr_slM ?_ | refine tr_chainL ?_ | refine tr_iteT ?_ | refine tr_iteF ?_ | refine tr_iteNF ?_ | refine tr_iteNT ?_ | refine tr_parM ?_
    | refine tr_consN ?_ | refine tr_newM ?_ | refine tr_callN ?_ | refine tr_asgM ?_ | refine tr_lcM ?_
  | ((with_reducible refine' tr_var ?e ?k); (case e => exact rfl))
  | with_reducible refine tr_chainM ?_
  | ((with_reducible refine' tr_ixOM ?e ?k); (case e => exact rfl))
  | ((with_reducible refine' tr_ixKM ?e ?k); (case e => exact rfl))
  | ((with_reducible refine' tr_frzSk ?e ?k); (case e => exact rfl); dsimp only [List.set])
  | ((with_reducible refine' tr_frzS ?e ?k); (case e => exact rfl); dsimp only [List.set])
  | ((with_reducible refine' tr_retVk ?e ?k); (case e => exact rfl))
  | ((with_reducible refine' tr_argR ?e ?f ?k); (case e => exact rfl); (case f => exact rfl))
  | ((with_reducible refine' tr_argB ?e ?f ?k); (case e => exact rfl); (case f => exact rfl))
  | ((with_reducible refine' tr_appM ?e ?k); (case e => exact rfl))
  | ((with_reducible refine' tr_retV ?e ?k); (case e => exact rfl))
  | ((with_reducible refine' tr_ownM ?e ?k); (case e => exact rfl))
  | ((with_reducible refine' tr_opt ?e ?k); (case e => exact rfl))
  | with_reducible refine tr_mul (by first | exact .inl (.inr ⟨by decide, by decide⟩) | exact .inl (.inl ⟨by omega, by omega⟩)) ?_
  | with_reducible refine tr_mod (by first | decide | omega) ?_
  | with_reducible refine tr_fdiv (by first | decide | assumption) ?_
  | ((with_reducible refine' ⟨_, _, _, _, ?e, ?f, ?g, ?k⟩); (case e => exact rfl); (case f => exact rfl); (case g => exact rfl); dsimp only [List.set])
  | ((with_reducible refine' ⟨_, _, (?e : _ = some (some (Dv.o _ _))), ?k⟩); (case e => exact rfl))
  | ((with_reducible refine' ⟨?e, ?k⟩); (case e => (with_reducible show okSlot _ _ = true); exact rfl); dsimp only [List.set])
  | ((with_reducible refine' ⟨?e, ?k⟩); (case e => (with_reducible show isO _ _ = true); exact rfl))
  | ((with_reducible refine' ⟨?e, ?k⟩); (case e => (with_reducible show List.length _ ≤ sizeLine); exact le_sz rfl))
  | ((with_reducible refine' ⟨?e, ?k⟩); (case e => (with_reducible show noIo _ _ = true); exact rfl))
  | ((with_reducible refine' ⟨okAt ?h ?e, ?k⟩); (case e => exact rfl); (case h => assumption); dsimp only [List.set])
  | ((with_reducible refine' ⟨noIoAt ?h ?e, ?k⟩); (case e => exact rfl); (case h => assumption))
  | ((with_reducible refine' ⟨_, (?e : _ = some (some (Dv.p _))), ?k⟩); (case e => exact rfl))
  | ((with_reducible refine' ⟨?e, ?k⟩); (case e => (with_reducible show isK _ _ = true); exact rfl)))
open TL (tl)
theorem tr_catOM {j : Nat} {mb : M (SK × List D)} {ρ : Fl.Env} {P : Dv → Fl.Env → Prop} (hj : isO ρ j = true) (h : Tr (mb ρ) fun y ρ1 => ∃ f ds z, ρ1[j]? = some (some (.o f ds)) ∧ catQ (.l, ds) y = some z ∧ P (.o false z) ρ1) : Tr (catOM j mb ρ) P := by
  unfold catOM
  rw [if_pos hj]
  refine tr_bind (h.mono fun y ρ1 q => ?_)
  obtain ⟨f, ds, z, e1, e2, q⟩ := q
  rw [e1]
  dsimp only
  rw [e2]
  exact q
structure LwSt where
  s : List D
  g : Gs
  us : List Str
  x : Option Dv
  y : Option Dv
theorem okS_keep : ∀ y : Option Dv, OkS (keepP y)
  | some (.p _) => .p
  | none => .n
  | some (.o _ _) => .n
  | some (.k _ _) => .n
  | some .x => .n
structure LbSt where
  s : List D
  x4 : Option Dv
  x11 : Option Dv
  x13 : Option Dv
  x14 : Option Dv
theorem law_rs {ns : List Int} {P : Dv → List Dv → Prop} (h : P (.p (.bl true)) [.p (.scr ns)]) : RS (m_law [.p (.scr ns)]) P := by
  refine rs_fn rfl ?_
  show Tr (b_law [some (.p (.scr ns)), none, none, none, none, none, none, none, none, none, none, none, none, none, none, none, none, none, none, none]) _
  unfold b_law
  repeat fail
  refine tr_call rfl rfl rfl (source_rs fun c hc => ?_)
  have hs : SrcOk [.int 0, .int 0, .int c] := ⟨0, 0, c, rfl, by omega, hc⟩
  generalize [D.int 0, .int 0, .int c] = s at hs ⊢
  dsimp only [updP, refsOf, List.set]
  repeat fail
  refine tr_drawS rfl hs (by decide) (by decide) fun num s hnum0 hnum1 hs => ?_
  dsimp only [List.set]
  repeat fail
  refine tr_rng (by omega) (by omega) ?_
  refine tr_forN (σ := LwSt) (fun t => [some (.p (.scr ns)), some (.o false t.s), some (.k false (kvG t.g)), some (.o false (t.us.map D.str)), t.x, t.y, none, none, none, none, none, none, none, none, none, none, none, none, none, none])
    (fun i t => SrcOk t.s ∧ t.g.length ≤ i ∧ (nmG t.g).Nodup ∧ GainsOk t.g ∧ t.us.length ≤ i ∧ (∀ u ∈ t.us, PyData.strOk u = true) ∧ OkS t.x ∧ OkS t.y) ⟨s, [], [], none, none⟩ _ ⟨hs, Nat.le_refl _, List.nodup_nil, fun _ h => absurd h (by simp), Nat.le_refl _, fun _ h => absurd h (by simp), .n, .n⟩ rfl ?_ ?_
  · rintro i ⟨s, g, us, x, y⟩ hi ⟨hs, hgl, hgd, hgq, hul, huo, hx, hy⟩
    dsimp only at hs hgl hgd hgq hul huo hx hy
    refine ⟨_, tgN_ok (okAt hx rfl), ?_⟩
    dsimp only [List.set]
    repeat fail
    refine tr_nameC (k := 3) (by decide) rfl rfl hs huo (by omega) fun nm s hnm hs => ?_
    dsimp only [List.set]
    repeat fail
    refine ⟨by rw [List.length_map]; show us.length < 2 ^ 24; omega, ?_⟩
    rw [appS]
    repeat fail
    refine tr_drawS rfl hs (by decide) (by decide) fun v s hv0 hv1 hs => ?_
    dsimp only [List.set]
    repeat fail
    refine tr_ixI (lo := 0) (hi := 2) hv0 (by show v < 2; exact hv1) (by decide) fun st hst0 hst1 => ?_
    repeat fail
    refine tr_call rfl rfl rfl (gain_rs hs fun a s hs ha _ => ?_)
    dsimp only [updP, refsOf, List.set]
    repeat fail
    refine tr_call rfl rfl rfl (gain_rs hs fun b s hs hb _ => ?_)
    dsimp only [updP, refsOf, List.set]
    repeat fail
    refine ⟨_, kvG g, .inr nm, rfl, rfl, by unfold kvG; rw [List.length_map]; show _ < 2 ^ 24; omega, ?_⟩
    refine ⟨⟨s, putG g nm (a, b), us ++ [nm], some (.p (.int i)), some (.p (.str nm))⟩, ?_, hs, ?_, putG_nodup hgd, ?_, ?_, ?_, .p, .p⟩
    · dsimp only
      rw [← put_kvG]
      rfl
    · have := putG_len g nm (a, b)
      dsimp only
      omega
    · intro q hq
      rcases putG_mem q hq with z | rfl
      · exact hgq q z
      · exact ⟨hnm.1, hnm.2.mono (by omega), ha, hb⟩
    · dsimp only
      rw [List.length_append, List.length_singleton]
      omega
    · intro u hu
      rcases List.mem_append.mp hu with z | z
      · exact huo u z
      · rw [List.mem_singleton.mp z]; exact hnm.2.2
  clear hs
  rintro ⟨s, g, us, x, y⟩ ⟨hs, hgl, hgd, hgq, hul, huo, hx, hy⟩
  dsimp only at hs hgl hgd hgq hul huo hx hy ⊢
  have hgo : GOk g := ⟨by omega, hgd, fun q hq => (hgq q hq).s.2⟩
  have hg6 : g.length ≤ 6 := by omega
  generalize hU : some (Dv.o false (us.map D.str)) = U
  have hUk : OkS U := by rw [← hU]; exact .o
  -- the lines
  refine tr_seqI (fun ρ1 => ∃ y, OkS y ∧ ρ1 = [some (.p (.scr ns)), some (.o false s), (some (.p (.dct (kvG g)))), U, x, y, (some (.p (.lst (((sortG g).map lineG).map D.str)))), none, none, none, none, none, none, none, none, none, none, none, none, none]) ?_ ?_
  · repeat fail
    refine tr_opt (sortKF_kvG hgo) ?_
    rw [sort_names]
    repeat fail
    refine tr_each (ws := sortG g) (g := fun q => D.str q.1) (V := fun q => D.str (lineG q)) (pre := [some (.p (.scr ns)), some (.o false s), some (.p (.dct (kvG g))), U, x]) (post := [none, none, none, none, none, none, none, none, none, none, none, none, none, none]) (by rw [(sortG_perm g).length_eq]; omega) rfl ?_ ?_
    · intro q hq Q hQ
      have hm2 : q ∈ g := (sortG_perm g).mem_iff.mp hq
      have ho := hgq q hm2
      repeat fail
      refine tr_addS gain5 ho.s (by omega) fun z1 => ?_
      repeat fail
      refine tr_addS z1 sp1 (by omega) fun z1 => ?_
      repeat fail
      refine tr_opt (show ixF (.dct (kvG g)) (D.str q.1) = some (pairD q.2.1 q.2.2) from kvD_kvG hgo.d q hm2) ?_
      unfold pairD
      repeat fail
      refine tr_opt (str_int ho.a) ?_
      repeat fail
      refine tr_addS z1 (strI_ok ho.a) (by omega) fun z1 => ?_
      repeat fail
      refine tr_addS z1 sp1 (by omega) fun z1 => ?_
      repeat fail
      refine tr_opt (show ixF (.dct (kvG g)) (D.str q.1) = some (pairD q.2.1 q.2.2) from kvD_kvG hgo.d q hm2) ?_
      unfold pairD
      repeat fail
      refine tr_opt (str_int ho.b) ?_
      repeat fail
      refine tr_addS z1 (strI_ok ho.b) (by omega) fun z1 => ?_
      repeat fail
      rw [lineG_add]
      exact hQ
    repeat fail
    have e : (sortG g).map (fun q => D.str (lineG q)) = ((sortG g).map lineG).map D.str := by rw [List.map_map]; rfl
    rw [e]
    exact ⟨keepP y, okS_keep y, rfl⟩
  rintro _ ⟨y, hy, rfl⟩
  have htx : SOk (900 * 129) (textG g) := joinS_ok (k := 900) (m := 128) (c := 10) (by decide) (lines_ok hgq.sort) (by rw [List.length_map, (sortG_perm g).length_eq]; omega)
  have hjx : joinF (.str "\n") (.l, ((sortG g).map lineG).map D.str) = some (.str (textG g)) := joinF_is (m := 128) str_nl (lines_ok hgq.sort) (by rw [List.length_map, (sortG_perm g).length_eq]; omega) (by omega) _
  -- the text, written and read
  refine tr_seqI (fun ρ1 => ρ1 = [some (.p (.scr ns)), some (.o false s), (some (.p (.dct (kvG g)))), U, x, y, (some (.p (.lst (((sortG g).map lineG).map D.str)))), (some (.p (.str (textG g)))), none, none, none, none, none, none, none, none, none, none, none, none]) ?_ ?_
  · repeat fail
    refine tr_opt hjx ?_
    repeat fail
  rintro _ rfl
  refine tr_seqI (fun ρ1 => ρ1 = [some (.p (.scr ns)), some (.o false s), (some (.p (.dct (kvG g)))), U, x, y, (some (.p (.lst (((sortG g).map lineG).map D.str)))), (some (.p (.str (textG g)))), none, none, none, none, none, none, none, none, none, none, none, none]) ?_ ?_
  · repeat fail
    refine tr_call rfl rfl rfl (format_gains_rs hgo hgq ?_)
    dsimp only [updP, refsOf]
    repeat fail
    refine tr_call rfl rfl rfl (told_same 0 39 (.str (textG g)) _ (by omega) (by unfold dat; exact htx.2) rfl ?_)
    dsimp only [updP, refsOf]
    repeat fail
    refine tr_call rfl rfl rfl (read_text_rs hgo hgq ?_)
    dsimp only [updP, refsOf]
    repeat fail
    refine tr_call rfl rfl rfl (told_dct hgo.sort hgo (by rw [nm_sortG, sortS_again]) (fun q hq => (sortG_perm g).mem_iff.mpr hq) (by omega) ?_)
    dsimp only [updP, refsOf]
    repeat fail
    rfl
  rintro _ rfl
  generalize hT : some (Dv.p (D.str (textG g))) = T
  generalize hG : some (Dv.p (D.dct (kvG g))) = G
  generalize hL : some (Dv.p (D.lst (((sortG g).map lineG).map D.str))) = L
  -- a lot
  refine tr_seqI (fun ρ1 => ∃ s ws, SrcOk s ∧ LotOk ws ∧ ρ1 = [some (.p (.scr ns)), some (.o false s), G, U, x, y, L, T, (some (.p (.tup (ws.map D.int)))), none, none, none, none, none, none, none, none, none, none, none]) ?_ ?_
  · repeat fail
    refine tr_drawS rfl hs (by decide) (by decide) fun v s hv0 hv1 hs => ?_
    dsimp only [List.set]
    repeat fail
    refine tr_call rfl rfl rfl (lot_rs hs (by omega) fun ws s hs hws => ?_)
    dsimp only [updP, refsOf, List.set]
    repeat fail
    exact ⟨s, ws, hs, hws, rfl⟩
  clear hs
  rintro _ ⟨s, ws, hs, hws, rfl⟩
  -- parts
  refine tr_seqI (fun ρ1 => ∃ (s : List D) (ps : List (Int × Int)) (x : Option Dv), SrcOk s ∧ OkS x ∧ (∀ p ∈ ps, FrOk p) ∧ ps.length ≤ 4 ∧ ρ1 = [some (.p (.scr ns)), some (.o false s), G, U, x, y, L, T, (some (.p (.tup (ws.map D.int)))), (some (.p (.tup (ps.map fun p : Int × Int => pairD p.1 p.2)))), none, none, none, none, none, none, none, none, none, none]) ?_ ?_
  · repeat fail
    refine tr_rng (by omega) (by omega) ?_
    refine ⟨noIoAt hx rfl, ?_⟩
    refine (tr_lcN (P := fun acc ρ2 => ∃ (s : List D) (ps : List (Int × Int)), SrcOk s ∧ (∀ p ∈ ps, FrOk p) ∧ ps.length ≤ 4 ∧ acc = ps.map (fun p : Int × Int => pairD p.1 p.2) ∧ ρ2 = [some (.p (.scr ns)), some (.o false s), G, U, none, y, L, T, (some (.p (.tup (ws.map D.int)))), none, none, none, none, none, none, none, none, none, none, none])
      (fun s : List D => [some (.p (.scr ns)), some (.o false s), G, U, none, y, L, T, (some (.p (.tup (ws.map D.int)))), none, none, none, none, none, none, none, none, none, none, none])
      (fun i acc s => SrcOk s ∧ ∃ ps : List (Int × Int), (∀ p ∈ ps, FrOk p) ∧ ps.length = i ∧ acc = ps.map (fun p : Int × Int => pairD p.1 p.2)) s _ ⟨hs, [], fun _ h => absurd h (by simp), rfl, rfl⟩ rfl ?_ ?_).mono ?_
    · rintro i acc s hi ⟨hs, ps, hps, hpl, rfl⟩
      refine ⟨_, tgN_ok rfl, ?_⟩
      dsimp only [List.set]
      repeat fail
      refine tr_call rfl rfl rfl (gain_rs hs fun a s hs _ ha => ?_)
      dsimp only [updP, refsOf, List.set]
      repeat fail
      refine tr_drawS rfl hs (by decide) (by decide) fun v s hv0 hv1 hs => ?_
      dsimp only [List.set]
      repeat fail
      refine tr_call rfl rfl rfl (fraction_rs (ha rfl) (by omega) fun p hp => ?_)
      dsimp only [updP, refsOf, List.set]
      repeat fail
      refine ⟨by rw [List.length_map]; show _ < 2 ^ 24; omega, rfl, s, rfl, hs, ps ++ [p], ?_, ?_, ?_⟩
      · intro q hq
        rcases List.mem_append.mp hq with z | z
        · exact hps q z
        · rw [List.mem_singleton.mp z]; exact hp
      · rw [List.length_append, hpl]; rfl
      · rw [List.map_append]; rfl
    · rintro acc s ⟨hs, ps, hps, hpl, rfl⟩
      exact ⟨s, ps, hs, hps, by rw [hpl]; decide, rfl, rfl⟩
    · rintro acc _ ⟨s, ps, hs, hps, hpl, rfl, rfl⟩
      repeat fail
      exact ⟨s, ps, keepP x, hs, okS_keep x, hps, hpl, rfl⟩
  clear hs hx x
  rintro _ ⟨s, ps, x, hs, hx, hps, hpl, rfl⟩
  refine tr_seqI (fun ρ1 => ∃ (s : List D) (ps : List (Int × Int)), SrcOk s ∧ (∀ p ∈ ps, FrOk p) ∧ ps.length ≤ 4 ∧ ρ1 = [some (.p (.scr ns)), some (.o false s), G, U, x, y, L, T, (some (.p (.tup (ws.map D.int)))), (some (.p (.tup (ps.map fun p : Int × Int => pairD p.1 p.2)))), none, none, none, none, none, none, none, none, none, none]) ?_ ?_
  · repeat fail
    refine tr_drawS rfl hs (by decide) (by decide) fun v s hv0 hv1 hs => ?_
    dsimp only [List.set]
    repeat fail
    obtain ⟨k, rfl⟩ : ∃ k : Nat, v = k := ⟨v.toNat, by omega⟩
    rw [cut_take, ← List.map_take]
    exact ⟨s, ps.take k, hs, fun p hp => hps p (List.mem_of_mem_take hp), by rw [List.length_take]; omega, rfl⟩
  clear hs hps hpl ps
  rintro _ ⟨s, ps, hs, hps, hpl, rfl⟩
  -- each part told
  refine tr_seqI (fun ρ1 => ∃ (pt wd : Option Dv), OkS pt ∧ OkS wd ∧ ρ1 = [some (.p (.scr ns)), some (.o false s), G, U, x, y, L, T, (some (.p (.tup (ws.map D.int)))), (some (.p (.tup (ps.map fun p : Int × Int => pairD p.1 p.2)))), pt, wd, none, none, none, none, none, none, none, none]) ?_ ?_
  · repeat fail
    refine tr_forS (σ := Option Dv × Option Dv) (fun t => [some (.p (.scr ns)), some (.o false s), G, U, x, y, L, T, (some (.p (.tup (ws.map D.int)))), (some (.p (.tup (ps.map fun p : Int × Int => pairD p.1 p.2)))), t.1, t.2, none, none, none, none, none, none, none, none])
      (fun r t => (∀ p ∈ r, FrOk p) ∧ OkS t.1 ∧ OkS t.2) ps (none, none) _ ⟨hps, .n, .n⟩ rfl ?_ ?_
    · rintro p r ⟨pt, wd⟩ ⟨hr, hpt, hwd⟩
      have hp := hr p (List.mem_cons_self ..)
      dsimp only at hpt hwd
      refine ⟨_, tgN_ok (okAt hpt rfl), ?_⟩
      dsimp only [List.set]
      refine tr_seqI (fun ρ1 => ρ1 = [some (.p (.scr ns)), some (.o false s), G, U, x, y, L, T, (some (.p (.tup (ws.map D.int)))), (some (.p (.tup (ps.map fun p : Int × Int => pairD p.1 p.2)))), (some (.p (pairD p.1 p.2))), (some (.p (.str (strP p)))), none, none, none, none, none, none, none, none]) ?_ ?_
      · unfold pairD
        repeat fail
        refine tr_opt (str_int hp.big.1) ?_
        repeat fail
        refine tr_addS (strI_ok hp.big.1) sl1 (by omega) fun z1 => ?_
        repeat fail
        refine tr_opt (str_int hp.big.2) ?_
        repeat fail
        refine tr_addS z1 (strI_ok hp.big.2) (by omega) fun z1 => ?_
        repeat fail
        rfl
      rintro _ rfl
      repeat fail
      refine tr_call rfl rfl rfl (format_fraction_rs hp ?_)
      dsimp only [updP, refsOf]
      repeat fail
      refine tr_call rfl rfl rfl (told_same 0 39 (.str (strP p)) _ (by omega) (by unfold dat; exact (strP_ok hp).2) rfl ?_)
      dsimp only [updP, refsOf]
      repeat fail
      refine tr_call rfl rfl rfl (fraction_in_rs (strP_ok hp) (by omega) ?_)
      rw [frcV_strP hp]
      dsimp only [updP, refsOf]
      show Tr (optM (frzF (.p (pairD p.1 p.2))) _) _
      repeat fail
      refine tr_call rfl rfl rfl (told_same 1 39 (pairD p.1 p.2) _ (by omega) rfl rfl ?_)
      dsimp only [updP, refsOf]
      repeat fail
      exact ⟨(some (.p (pairD p.1 p.2)), some (.p (.str (strP p)))), rfl, fun q hq => hr q (List.mem_cons_of_mem _ hq), .p, .p⟩
    · rintro ⟨pt, wd⟩ ⟨_, hpt, hwd⟩
      exact ⟨pt, wd, hpt, hwd, rfl⟩
  rintro _ ⟨pt, wd, hpt, hwd, rfl⟩
  -- the lines wanted
  have hll := hws.l
  have eL : [D.str "lot"] ++ ws.map (fun w => D.str (strI w)) = (("lot" : Str) :: ws.map strI).map D.str := by
    rw [List.map_cons, List.map_map]; rfl
  have eP : [D.str "prices"] ++ ps.map (fun w => D.str (strP w)) = (("prices" : Str) :: ps.map strP).map D.str := by
    rw [List.map_cons, List.map_map]; rfl
  have jL : joinF (.str " ") (.l, (("lot" : Str) :: ws.map strI).map D.str) = some (.str (lineL ws)) := joinF_is (m := 63) str_sp (wordsL_ok hws) (by rw [List.length_cons, List.length_map]; omega) (by omega) _
  have jP : joinF (.str " ") (.l, (("prices" : Str) :: ps.map strP).map D.str) = some (.str (lineP ps)) := joinF_is (m := 63) str_sp (wordsP_ok hps) (by rw [List.length_cons, List.length_map]; omega) (by omega) _
  refine tr_seqI (fun ρ1 => ρ1 = [some (.p (.scr ns)), some (.o false s), G, U, x, y, L, T, (some (.p (.tup (ws.map D.int)))), (some (.p (.tup (ps.map fun p : Int × Int => pairD p.1 p.2)))), pt, wd, (some (.o false [.str (lineL ws)])), none, none, none, none, none, none, none]) ?_ ?_
  · repeat fail
    refine tr_each (ws := ws) (g := D.int) (V := fun w => D.str (strI w)) (pre := [some (.p (.scr ns)), some (.o false s), G, U, x, y, L, T, some (.p (.tup (ws.map D.int))), some (.p (.tup (ps.map fun p : Int × Int => pairD p.1 p.2))), pt, wd, none, none, none, none, none, none, none]) (post := []) (by omega) rfl ?_ ?_
    · intro w hw Q hQ
      repeat fail
      refine tr_opt (str_int (lot_big hws w hw)) ?_
      exact hQ
    repeat fail
    refine tr_opt (cat_lst (by rw [List.length_map]; show 1 + _ ≤ _; omega)) ?_
    repeat fail
    rw [eL]
    refine tr_opt jL ?_
    repeat fail
    rfl
  rintro _ rfl
  refine tr_seqI (fun ρ1 => ∃ pt, OkS pt ∧ ρ1 = [some (.p (.scr ns)), some (.o false s), G, U, x, y, L, T, (some (.p (.tup (ws.map D.int)))), (some (.p (.tup (ps.map fun p : Int × Int => pairD p.1 p.2)))), pt, wd, (some (.o false [.str (lineL ws), .str (lineP ps)])), none, none, none, none, none, none, none]) ?_ ?_
  · repeat fail
    refine tr_each (ws := ps) (g := fun p : Int × Int => pairD p.1 p.2) (V := fun p => D.str (strP p)) (pre := [some (.p (.scr ns)), some (.o false s), G, U, x, y, L, T, some (.p (.tup (ws.map D.int))), some (.p (.tup (ps.map fun p : Int × Int => pairD p.1 p.2)))]) (post := [wd, some (.o false [.str (lineL ws)]), none, none, none, none, none, none, none]) (by omega) rfl ?_ ?_
    · intro p hp Q hQ
      have hpf := hps p hp
      unfold pairD at hQ ⊢
      repeat fail
      refine tr_opt (str_int hpf.big.1) ?_
      repeat fail
      refine tr_addS (strI_ok hpf.big.1) sl1 (by omega) fun z1 => ?_
      repeat fail
      refine tr_opt (str_int hpf.big.2) ?_
      repeat fail
      refine tr_addS z1 (strI_ok hpf.big.2) (by omega) fun z1 => ?_
      exact hQ
    repeat fail
    refine tr_opt (cat_lst (by rw [List.length_map]; show 1 + _ ≤ _; omega)) ?_
    repeat fail
    rw [eP]
    refine tr_opt jP ?_
    repeat fail
    refine ⟨by show 1 < 2 ^ 24; omega, ?_⟩
    exact ⟨keepP pt, okS_keep pt, rfl⟩
  clear hpt pt
  rintro _ ⟨pt, hpt, rfl⟩
  -- told of them
  have dL : dat 0 (.str (lineL ws)) = true := by unfold dat; exact (lineL_ok hws).2
  have dP : dat 0 (.str (lineP ps)) = true := by unfold dat; exact (lineP_ok hps hpl).2
  refine tr_seqI (fun ρ1 => ρ1 = [some (.p (.scr ns)), some (.o false s), G, U, x, y, L, T, (some (.p (.tup (ws.map D.int)))), (some (.p (.tup (ps.map fun p : Int × Int => pairD p.1 p.2)))), pt, wd, (some (.o false [.str (lineL ws), .str (lineP ps)])), none, none, none, none, none, none, none]) ?_ ?_
  · repeat fail
    refine tr_call rfl rfl rfl (format_lot_rs hws ?_)
    dsimp only [updP, refsOf]
    repeat fail
    refine tr_call rfl rfl rfl (told_same 0 39 (.str (lineL ws)) _ (by omega) dL rfl ?_)
    dsimp only [updP, refsOf]
    repeat fail
    refine tr_call rfl rfl rfl (format_parts_rs hps hpl ?_)
    dsimp only [updP, refsOf]
    repeat fail
    refine tr_call rfl rfl rfl (told_same 0 39 (.str (lineP ps)) _ (by omega) dP rfl ?_)
    dsimp only [updP, refsOf]
    repeat fail
    rfl
  rintro _ rfl
  have lL := lotD_dat (w := "lot") (r := ws.map strI) (by rw [List.length_map]; omega)
  have lP := partsD_dat (word := "prices") (w := "prices") (r := ps.map strP) (by rw [List.length_map]; omega)
  rw [lotD_lineL hws] at lL
  rw [partsD_lineP hps] at lP
  refine tr_seqI (fun ρ1 => ρ1 = [some (.p (.scr ns)), some (.o false s), G, U, x, y, L, T, (some (.p (.tup (ws.map D.int)))), (some (.p (.tup (ps.map fun p : Int × Int => pairD p.1 p.2)))), pt, wd, (some (.o false [.str (lineL ws), .str (lineP ps)])), none, none, none, none, none, none, none]) ?_ ?_
  · repeat fail
    refine tr_call rfl rfl rfl (read_lot_rs (lineL_ok hws) (by omega) (spS_lineL ws) ?_)
    rw [lotD_lineL hws]
    dsimp only [updP, refsOf]
    repeat fail
    refine tr_call rfl rfl rfl (told_same 3 39 _ _ (by omega) lL.1 lL.2 ?_)
    dsimp only [updP, refsOf]
    repeat fail
    refine tr_call rfl rfl rfl (read_parts_rs (lineP_ok hps hpl) (by omega) (spS_lineP ps) ?_)
    rw [partsD_lineP hps]
    dsimp only [updP, refsOf]
    repeat fail
    refine tr_call rfl rfl rfl (told_same 3 39 _ _ (by omega) lP.1 lP.2 ?_)
    dsimp only [updP, refsOf]
    repeat fail
    rfl
  rintro _ rfl
  have kL := LnOk.lot hws
  have kP := LnOk.parts hps hpl
  generalize hLo : some (Dv.p (D.tup (ws.map D.int))) = Lo
  generalize hPa : some (Dv.p (D.tup (ps.map fun p : Int × Int => pairD p.1 p.2))) = Pa
  -- bent lines
  refine tr_seqI (fun ρ1 => ∃ b : LbSt, SrcOk b.s ∧ OkS b.x4 ∧ OkS b.x11 ∧ OkS b.x13 ∧ OkS b.x14 ∧ ρ1 = [some (.p (.scr ns)), some (.o false b.s), G, U, b.x4, y, L, T, Lo, Pa, pt, b.x11, some (.o false [.str (lineL ws), .str (lineP ps)]), b.x13, b.x14, none, none, none, none, none]) ?_ ?_
  · repeat fail
    refine tr_rng (by omega) (by omega) ?_
    refine tr_forN (σ := LbSt) (fun b => [some (.p (.scr ns)), some (.o false b.s), G, U, b.x4, y, L, T, Lo, Pa, pt, b.x11, some (.o false [.str (lineL ws), .str (lineP ps)]), b.x13, b.x14, none, none, none, none, none]) (fun i b => SrcOk b.s ∧ OkS b.x4 ∧ OkS b.x11 ∧ OkS b.x13 ∧ OkS b.x14) ⟨s, x, wd, none, none⟩ _ ⟨hs, hx, hwd, .n, .n⟩ rfl ?_ ?_
    rotate_left
    · rintro b ⟨h1, h2, h3, h4, h5⟩
      exact ⟨b, h1, h2, h3, h4, h5, rfl⟩
    clear hs hx hwd x wd
    rintro i ⟨s, x4, x11, x13, x14⟩ hi ⟨hs, h4, h11, h13, h14⟩
    dsimp only at hs h4 h11 h13 h14
    refine ⟨_, tgN_ok (okAt h4 rfl), ?_⟩
    dsimp only [List.set]
    repeat fail
    refine tr_catOM rfl ?_
    repeat fail
    refine ⟨false, [.str (lineL ws), .str (lineP ps)], [lineL ws, lineP ps, "gain ab -12 40"].map D.str, rfl, rfl, ?_⟩
    repeat fail
    refine tr_forS (g := D.str) (σ := LbSt) (fun b => [some (.p (.scr ns)), some (.o false b.s), G, U, (some (.p (.int i))), y, L, T, Lo, Pa, pt, b.x11, some (.o false [.str (lineL ws), .str (lineP ps)]), b.x13, b.x14, none, none, none, none, none]) (fun r b => (∀ l ∈ r, LnOk l) ∧ SrcOk b.s ∧ OkS b.x11 ∧ OkS b.x13 ∧ OkS b.x14) [lineL ws, lineP ps, "gain ab -12 40"] ⟨s, none, x11, x13, x14⟩ _ ⟨?_, hs, h11, h13, h14⟩ rfl ?_ ?_
    · intro l hl
      simp only [List.mem_cons, List.not_mem_nil, or_false] at hl
      rcases hl with rfl | rfl | rfl
      · exact kL
      · exact kP
      · exact .lit
    rotate_left
    · rintro ⟨s, x4, x11, x13, x14⟩ ⟨_, h1, h3, h4, h5⟩
      exact ⟨⟨s, some (.p (.int i)), x11, x13, x14⟩, rfl, h1, .p, h3, h4, h5⟩
    clear hs h4 h11 h13 h14 s x4 x11 x13 x14
    rintro l r ⟨s, x4, x11, x13, x14⟩ ⟨hr, hs, h11, h13, h14⟩
    dsimp only at hs h11 h13 h14
    have hl1 := hr l (List.mem_cons_self ..)
    refine ⟨_, tgN_ok (okAt h13 rfl), ?_⟩
    dsimp only [List.set]
    refine tr_seqI (fun ρ1 => ∃ (s : List D) (b : Str), SrcOk s ∧ BtOk b ∧ ρ1 = [some (.p (.scr ns)), some (.o false s), G, U, (some (.p (.int i))), y, L, T, Lo, Pa, pt, x11, some (.o false [.str (lineL ws), .str (lineP ps)]), (some (.p (.str l))), (some (.p (.str b))), none, none, none, none, none]) ?_ ?_
    · repeat fail
      refine tr_call rfl rfl rfl (bent_rs hs hl1 fun b s hs hb => ?_)
      dsimp only [updP, refsOf, List.set]
      repeat fail
      exact ⟨s, b, hs, hb, rfl⟩
    clear hs
    rintro _ ⟨s, b, hs, hb, rfl⟩
    obtain ⟨w, q, eb⟩ := spS_cons (c := 32) (s := b)
    have hbl := spS_len hb.1 (c := 32)
    have hql : q.length ≤ 1000000 := by rw [eb, List.length_cons] at hbl; omega
    have d1 := lotD_dat (w := w) (r := q) hql
    have d2 := gainD_dat (ws := spS 32 b) fun w hw => (spS_ok hb.1 w hw).2
    have d3 := partsD_dat (word := "prices") (w := w) (r := q) hql
    refine tr_seqI (fun ρ1 => ρ1 = [some (.p (.scr ns)), some (.o false s), G, U, (some (.p (.int i))), y, L, T, Lo, Pa, pt, x11, some (.o false [.str (lineL ws), .str (lineP ps)]), (some (.p (.str l))), (some (.p (.str b))), none, none, none, none, none]) ?_ ?_
    · repeat fail
      refine tr_call rfl rfl rfl (read_lot_rs hb.1 (by omega) eb ?_)
      dsimp only [updP, refsOf]
      show Tr (optM (frzF (.p (lotD w q))) _) _
      repeat fail
      refine tr_call rfl rfl rfl (own_lot_rs hb.1 (by omega) eb ?_)
      dsimp only [updP, refsOf]
      show Tr (optM (frzF (.p (lotD w q))) _) _
      repeat fail
      refine tr_call rfl rfl rfl (told_same 3 39 _ _ (by omega) d1.1 d1.2 ?_)
      dsimp only [updP, refsOf]
      repeat fail
      refine tr_call rfl rfl rfl (read_gain_rs hb.1 (by omega) ?_)
      dsimp only [updP, refsOf]
      repeat fail
      refine tr_call rfl rfl rfl (own_gain_rs hb.1 (by omega) ?_)
      dsimp only [updP, refsOf]
      repeat fail
      refine tr_call rfl rfl rfl (told_same 3 39 _ _ (by omega) d2.1 d2.2 ?_)
      dsimp only [updP, refsOf]
      repeat fail
      rfl
    rintro _ rfl
    refine tr_seqI (fun ρ1 => ρ1 = [some (.p (.scr ns)), some (.o false s), G, U, (some (.p (.int i))), y, L, T, Lo, Pa, pt, x11, some (.o false [.str (lineL ws), .str (lineP ps)]), (some (.p (.str l))), (some (.p (.str b))), none, none, none, none, none]) ?_ ?_
    · repeat fail
      refine tr_call rfl rfl rfl (read_parts_rs hb.1 (by omega) eb ?_)
      dsimp only [updP, refsOf]
      repeat fail
      refine tr_call rfl rfl rfl (own_parts_rs hb.1 (by omega) eb ?_)
      dsimp only [updP, refsOf]
      repeat fail
      refine tr_call rfl rfl rfl (told_same 3 39 _ _ (by omega) d3.1 d3.2 ?_)
      dsimp only [updP, refsOf]
      repeat fail
      rfl
    rintro _ rfl
    repeat fail
    refine spl_ok hb.1 (by omega) str_sp (by decide) ?_
    rw [split_eq str_sp (by decide)]
    repeat fail
    refine tr_forS (g := D.str) (σ := Option Dv) (fun z => [some (.p (.scr ns)), some (.o false s), G, U, (some (.p (.int i))), y, L, T, Lo, Pa, pt, z, some (.o false [.str (lineL ws), .str (lineP ps)]), (some (.p (.str l))), (some (.p (.str b))), none, none, none, none, none]) (fun r z => (∀ w ∈ r, SOk 700 w) ∧ OkS z) (spS 32 b) x11 _ ⟨spS_ok hb.1, h11⟩ rfl ?_ ?_
    rotate_left
    · rintro z ⟨_, hz⟩
      exact ⟨⟨s, none, z, _, _⟩, rfl, fun l hl => hr l (List.mem_cons_of_mem _ hl), hs, hz, .p, .p⟩
    rintro v r2 z ⟨hv, hz⟩
    have hv1 := hv v (List.mem_cons_self ..)
    refine ⟨_, tgN_ok (okAt hz rfl), ?_⟩
    dsimp only [List.set]
    have dz : dat 2 (optI (intV (tl v))) = true ∧ shortD (optI (intV (tl v))) = true := ⟨dat_zV v, short_zV v⟩
    have df : dat 2 (optP (frcV (tl v))) = true ∧ shortD (optP (frcV (tl v))) = true := ⟨dat_fV v, short_fV v⟩
    repeat fail
    refine tr_call rfl rfl rfl (integer_in_rs hv1 (by omega) ?_)
    dsimp only [updP, refsOf]
    repeat fail
    refine tr_call rfl rfl rfl (own_integer_rs hv1 (by omega) ?_)
    dsimp only [updP, refsOf]
    repeat fail
    refine tr_call rfl rfl rfl (told_same 2 39 _ _ (by omega) dz.1 dz.2 ?_)
    dsimp only [updP, refsOf]
    repeat fail
    refine tr_call rfl rfl rfl (fraction_in_rs hv1 (by omega) ?_)
    dsimp only [updP, refsOf]
    repeat fail
    refine tr_call rfl rfl rfl (own_fraction_rs hv1 (by omega) ?_)
    dsimp only [updP, refsOf]
    repeat fail
    refine tr_call rfl rfl rfl (told_same 2 39 _ _ (by omega) df.1 df.2 ?_)
    dsimp only [updP, refsOf]
    repeat fail
    exact ⟨some (.p (.str v)), rfl, fun w hw => hv w (List.mem_cons_of_mem _ hw), .p⟩
  clear hs hx hwd x wd
  rintro _ ⟨⟨s, x4, x11, x13, x14⟩, hs, h4, h11, h13, h14, rfl⟩
  dsimp only at hs h4 h11 h13 h14 ⊢
  -- the lines spoilt
  have hls : ∀ l ∈ (sortG g).map lineG, LnOk l ∧ BtOk l := fun l hl => by
    obtain ⟨q, hq, rfl⟩ := List.mem_map.mp hl
    have := hgq.sort q hq
    exact ⟨.gain this, (lineG_ok this).mono (by omega), lineG_free this⟩
  have hln : ((sortG g).map lineG).length ≤ 6 := by rw [List.length_map, (sortG_perm g).length_eq]; omega
  subst hL
  clear hT htx hjx
  generalize (sortG g).map lineG = ls at hls hln ⊢
  repeat fail
  refine tr_ite (fun h1 => ?_) (fun h1 => ?_)
  rotate_left
  · repeat fail
    exact h
  have h1 : (0 : Int) < (((ls.map D.str).length : Nat) : Int) := of_decide_eq_true h1
  rw [List.length_map] at h1
  refine tr_seqI (fun ρ1 => ∃ (s : List D) (k : Nat), SrcOk s ∧ k < ls.length ∧ ρ1 = [some (.p (.scr ns)), some (.o false s), G, U, x4, y, some (.p (.lst (ls.map D.str))), T, Lo, Pa, pt, x11, some (.o false [.str (lineL ws), .str (lineP ps)]), x13, x14, (some (.p (.int k))), none, none, none, none]) ?_ ?_
  · repeat fail
    show Tr (callC m__law_draw [.v (.scr ns), .r 1, .v (.int (((ls.map D.str).length : Nat) : Int))] _) _
    rw [List.length_map]
    refine tr_drawS rfl hs (by omega) (by omega) fun v s hv0 hv1 hs => ?_
    dsimp only [List.set]
    repeat fail
    exact ⟨s, v.toNat, hs, by omega, by rw [Int.toNat_of_nonneg hv0]⟩
  clear hs
  rintro _ ⟨s, k, hs, hk, rfl⟩
  have ltk : (ls.take k).length = k := by rw [List.length_take]; omega
  have ldk : ∀ j, (ls.drop j).length = ls.length - j := fun j => List.length_drop ..
  have mem2 : ∀ (A B : List Str), (∀ w ∈ A, BtOk w) → (∀ w ∈ B, BtOk w) → ∀ w ∈ A ++ B, BtOk w := fun A B hA hB w hw => by
    rcases List.mem_append.mp hw with z | z
    · exact hA w z
    · exact hB w z
  have ht : ∀ w ∈ ls.take k, BtOk w := fun w hw => (hls w (List.mem_of_mem_take hw)).2
  have hd : ∀ j, ∀ w ∈ ls.drop j, BtOk w := fun j w hw => (hls w (List.mem_of_mem_drop hw)).2
  refine tr_seqI (fun ρ1 => ∃ (s : List D) (M : List Str), SrcOk s ∧ (∀ l ∈ M, BtOk l) ∧ M ≠ [] ∧ M.length ≤ 6 ∧ ρ1 = [some (.p (.scr ns)), some (.o false s), G, U, x4, y, some (.p (.lst (ls.map D.str))), T, Lo, Pa, pt, x11, some (.o false [.str (lineL ws), .str (lineP ps)]), x13, x14, (some (.p (.int k))), (some (.p (.lst (M.map D.str)))), none, none, none]) ?_ ?_
  · repeat fail
    rw [takeS]
    refine tr_opt (ix_lst (itemLs ls hk)) ?_
    repeat fail
    refine tr_call rfl rfl rfl (bent_rs hs (hls _ (List.getElem_mem hk)).1 fun b s hs hb => ?_)
    dsimp only [updP, refsOf, List.set]
    repeat fail
    refine tr_opt (cat_lst (by rw [List.length_map, ltk]; show k + 1 ≤ _; omega)) ?_
    repeat fail
    rw [dropS1]
    refine tr_opt (cat_lst (by rw [List.length_append, List.length_map, List.length_map, ltk, ldk]; show k + 1 + _ ≤ _; omega)) ?_
    repeat fail
    refine ⟨s, ls.take k ++ [b] ++ ls.drop (k + 1), hs, mem2 _ _ (mem2 _ _ ht fun w hw => by rw [List.mem_singleton.mp hw]; exact hb) (hd _), by simp, by rw [List.length_append, List.length_append, ltk, ldk]; show k + 1 + _ ≤ _; omega, ?_⟩
    rw [List.map_append, List.map_append]
    rfl
  clear hs
  rintro _ ⟨s, M0, hs, hM, hMne, hMl, rfl⟩
  refine tr_seqI (fun ρ1 => ∃ (s : List D) (M : List Str), SrcOk s ∧ (∀ l ∈ M, BtOk l) ∧ M ≠ [] ∧ M.length ≤ 6 ∧ ρ1 = [some (.p (.scr ns)), some (.o false s), G, U, x4, y, some (.p (.lst (ls.map D.str))), T, Lo, Pa, pt, x11, some (.o false [.str (lineL ws), .str (lineP ps)]), x13, x14, (some (.p (.int k))), (some (.p (.lst (M.map D.str)))), none, none, none]) ?_ ?_
  · repeat fail
    refine tr_drawS rfl hs (by decide) (by decide) fun v s hv0 hv1 hs => ?_
    dsimp only [List.set]
    repeat fail
    refine tr_ite (fun _ => ?_) (fun _ => ?_)
    · repeat fail
      rw [takeS, dropS]
      refine tr_addL (by rw [List.length_map, List.length_map, ltk, ldk]; omega) ?_
      repeat fail
      refine ⟨s, ls.drop k ++ ls.take k, hs, mem2 _ _ (hd _) ht, ?_, by rw [List.length_append, ltk, ldk]; omega, by rw [List.map_append]⟩
      intro e
      have := congrArg List.length e
      rw [List.length_append, ltk, ldk] at this
      simp at this
      omega
    · exact ⟨s, M0, hs, hM, hMne, hMl, rfl⟩
  clear hs hM hMne hMl M0
  rintro _ ⟨s, M, hs, hM, hMne, hMl, rfl⟩
  have hMs : SOk (6 * 701) (joinS 10 M) := joinS_ok (k := 6) (m := 700) (c := 10) (by decide) (fun s hs => (hM s hs).1) hMl
  have hMt : spS 10 (joinS 10 M) = M := spS_join hMne fun s hs => (hM s hs).2
  have hM1 : ∀ l ∈ M, SOk 1000 l := fun l hl => (hM l hl).1.mono (by omega)
  have hEq := eqF_strs (L := M) (M := [("" : Str)]) (fun s hs => (hM s hs).1.2) (by intro s hs; rw [List.mem_singleton.mp hs]; decide +kernel)
  repeat fail
  refine tr_call rfl rfl rfl (lines_fault_rs (n := 700) (fun l hl => (hM l hl).1) (by omega) (by omega) ?_)
  dsimp only [updP, refsOf]
  repeat fail
  refine tr_opt (joinF_is (m := 700) str_nl (fun s hs => (hM s hs).1) (by omega) (by omega) _) ?_
  repeat fail
  by_cases hone : M = [("" : Str)]
  · have ht0 : joinS 10 M = "" := by rw [hone]; decide +kernel
    rw [ht0]
    refine tr_call rfl rfl rfl (read_or_ok (kvs := []) (fun P h => read_gains_empty h) ?_)
    dsimp only [updP, refsOf]
    repeat fail
    refine tr_opt hEq ?_
    repeat fail
    refine tr_iteC (decide_eq_true hone) ?_
    repeat fail
    refine tr_call rfl rfl rfl (told_dct (g := []) (g' := []) (k := 38) ⟨by simp, List.nodup_nil, fun _ h => absurd h (by simp)⟩ ⟨by simp, List.nodup_nil, fun _ h => absurd h (by simp)⟩ rfl (fun _ h => h) (by omega) ?_)
    dsimp only [updP, refsOf]
    repeat fail
    exact h
  have hne : joinS 10 M ≠ "" := fun e => by
    rw [e, spS_empty] at hMt
    exact hone hMt.symm
  by_cases hf : faultL M "" 0 = 0
  · have hgo2 : GOk (accG M []) := accG_ok M [] ⟨by simp, List.nodup_nil, fun _ h => absurd h (by simp)⟩ hM1 (by show 0 + M.length ≤ 900; omega)
    refine tr_call rfl rfl rfl (read_or_ok (kvs := kvG (accG M [])) (fun P h => read_gains_ok hMs (by omega) hne (by rw [hMt]; exact hM1) (by rw [hMt]; exact hf) (by rw [hMt]; exact h)) ?_)
    dsimp only [updP, refsOf]
    repeat fail
    refine tr_opt hEq ?_
    repeat fail
    refine tr_iteD (decide_eq_false hone) ?_
    repeat fail
    refine tr_iteD (decide_eq_false (by rw [hf]; decide)) ?_
    repeat fail
    refine tr_call rfl rfl rfl (pairs_dict_rs (n := 700) (fun l hl => (hM l hl).1) (by omega) (by omega) (fault_all M _ _ hf) ?_)
    dsimp only [updP, refsOf]
    repeat fail
    refine tr_call rfl rfl rfl (told_dct (k := 38) hgo2 hgo2 rfl (fun _ h => h) (by omega) ?_)
    dsimp only [updP, refsOf]
    repeat fail
    exact h
  · refine tr_call rfl rfl rfl (read_or_ex (k := faultL M "" 0) (read_gains_ex hMs (by omega) hne (by rw [hMt]; exact hM1) (by rw [hMt]) hf) ?_)
    dsimp only [updP, refsOf]
    repeat fail
    refine tr_opt hEq ?_
    repeat fail
    refine tr_iteD (decide_eq_false hone) ?_
    repeat fail
    refine tr_iteC (decide_eq_true (by omega)) ?_
    repeat fail
    refine tr_call rfl rfl rfl (told_same 1 39 (.lst [.int (faultL M "" 0 : Nat), .bl false]) _ (by omega) rfl rfl ?_)
    dsimp only [updP, refsOf]
    repeat fail
    exact h
theorem law_eq (ns : List Int) : m_law [.p (.scr ns)] = .ok (.p (.bl true)) [.p (.scr ns)] := RS_eq (law_rs ⟨rfl, rfl⟩)

end Lk
end

section
set_option Elab.async false
set_option linter.all false
set_option maxRecDepth 100000
set_option autoImplicit false
set_option maxHeartbeats 0
namespace Lk
open Fl PySem PySem.Spec PyProof.Rows L2

def top (i : Nat) : Stmt := PySem.Challenge.pw_sequencesandadvice_k84_texts_of_gains_an.main.body.getD i (.Pass ⟨0, 0, 0, 0⟩)
structure Ctx (P : Program) (w : World) (K : PySem.W.Frag) (mg : Str → Option Value) (base : Heap) : Prop where
  n_abs : mg "abs" = none
  n_bool : mg "bool" = none
  n_dict : mg "dict" = none
  n_enumerate : mg "enumerate" = none
  n_int : mg "int" = none
  n_isinstance : mg "isinstance" = none
  n_len : mg "len" = none
  n_list : mg "list" = none
  n_max : mg "max" = none
  n_range : mg "range" = none
  n_sorted : mg "sorted" = none
  n_str : mg "str" = none
  n_sum : mg "sum" = none
  n_tuple : mg "tuple" = none
  g_DIGITS : ∃ t, mg "DIGITS" = some (.str "0123456789" t)
  g_LETTERS : ∃ t, mg "LETTERS" = some (.str "abcdefghijklmnopqrstuvwxyz" t)
  g_LONGEST_NAME : ∃ t, mg "LONGEST_NAME" = some (.int 12 t)
  g_LONGEST_NUMBER : ∃ t, mg "LONGEST_NUMBER" = some (.int 40 t)
  i_gcd : mg "gcd" = some (.builtin "math.gcd")
  f_is_name : DefAt K mg "is_name" (top 10)
  f_number_in : DefAt K mg "number_in" (top 11)
  f_integer_in : DefAt K mg "integer_in" (top 13)
  f_fraction_in : DefAt K mg "fraction_in" (top 14)
  f_format_fraction : DefAt K mg "format_fraction" (top 15)
  f__read_words : DefAt K mg "_read_words" (top 16)
  f_format_gains : DefAt K mg "format_gains" (top 17)
  f_read_gain : DefAt K mg "read_gain" (top 18)
  f_read_gains : DefAt K mg "read_gains" (top 19)
  f_format_lot : DefAt K mg "format_lot" (top 20)
  f_read_lot : DefAt K mg "read_lot" (top 21)
  f_format_parts : DefAt K mg "format_parts" (top 22)
  f_read_parts : DefAt K mg "read_parts" (top 23)
  f__law_source : DefAt K mg "_law_source" (top 25)
  f__law_draw : DefAt K mg "_law_draw" (top 26)
  f__law_name : DefAt K mg "_law_name" (top 27)
  f__law_gcd : DefAt K mg "_law_gcd" (top 28)
  f__law_is_name : DefAt K mg "_law_is_name" (top 29)
  f__law_told : DefAt K mg "_law_told" (top 30)
  f__law_fraction : DefAt K mg "_law_fraction" (top 31)
  f__law_gain : DefAt K mg "_law_gain" (top 32)
  f__law_lot : DefAt K mg "_law_lot" (top 33)
  f__law_own_number : DefAt K mg "_law_own_number" (top 34)
  f__law_own_integer : DefAt K mg "_law_own_integer" (top 35)
  f__law_own_fraction : DefAt K mg "_law_own_fraction" (top 36)
  f__law_own_gain : DefAt K mg "_law_own_gain" (top 37)
  f__law_own_lot : DefAt K mg "_law_own_lot" (top 38)
  f__law_own_parts : DefAt K mg "_law_own_parts" (top 39)
  f__law_bent : DefAt K mg "_law_bent" (top 40)
  f__law_lines_fault : DefAt K mg "_law_lines_fault" (top 41)
  f__law_read_or : DefAt K mg "_law_read_or" (top 42)
  f__law_pairs_dict : DefAt K mg "_law_pairs_dict" (top 43)
  f_law : DefAt K mg "law" (top 44)
  c_BadGame : mg "BadGame" = some (.ref (He.ga K "BadGame"))
  c_BadText : mg "BadText" = some (.ref (He.ga K "BadText"))
  pay_BadText : PayOk P w K mg base "BadText" "line" smallD
  fx_BadText : ∃ C, mg "BadText" = some (.ref C) ∧ XfC K C ∧ PySem.W.findIn K (.ref C) "line" = some none
  cat_BadText : CatTab K mg cat_BadText (.ref (He.ga K "BadText"))
  is_BadGame : IsTab K mg (fun D => PySem.W.kitOne K D (.ref (He.ga K "BadGame"))) tab_is_BadGame
  fld_line : FldTab K mg "line" tab_line
section
variable {P : Program} {w : World} {K : PySem.W.Frag} {mg : Str → Option Value} {base : Heap}
theorem S_is_name : FnScope ["word", "char"] ["word"] (defScope (top 10)) := ⟨rfl, rfl, rfl, by decide +kernel, rfl, by decide +kernel, by decide +kernel⟩
theorem w_is_name (C : Ctx P w K mg base) : Fn P w K ⟨mg, none⟩ base 1 "is_name" m_is_name := by
  refine mk_fn (k := 0) (m := b_is_name) C.f_is_name rfl S_is_name (fun _ _ _ _ _ _ us hl => match us, hl with | [_], _ => rfl) fun f cdv A outer s H E hr => ?_
  exact (ss_cons (ss_if (st_sw (sw_or (st_not (st_chain opLe opLe se_int (se_callB callLen rfl C.n_len bb_len (sa_cons (se_var rfl (.inl rfl)) sa_nil)) (se_gint rfl C.g_LONGEST_NAME))) (sw_or1 (st_cmp opNotIn (se_ix (se_var rfl (.inl rfl)) se_int) (se_gstr rfl C.g_LETTERS))))) (ss_one (ss_ret se_bl)) ss_nil)
  (ss_cons (ss_for (si_any (se_var rfl (.inl rfl))) (sg_name rfl (.inl rfl)) (ss_one (ss_if (st_sw (sw_and (st_cmp opNotIn (se_var rfl (.inl rfl)) (se_gstr rfl C.g_LETTERS)) (sw_and1 (st_cmp opNotIn (se_var rfl (.inl rfl)) (se_gstr rfl C.g_DIGITS))))) (ss_one (ss_ret se_bl)) ss_nil)))
  (ss_one (ss_ret se_bl))))
theorem S_number_in : FnScope ["word", "char"] ["word"] (defScope (top 11)) := ⟨rfl, rfl, rfl, by decide +kernel, rfl, by decide +kernel, by decide +kernel⟩
theorem w_number_in (C : Ctx P w K mg base) : Fn P w K ⟨mg, none⟩ base 1 "number_in" m_number_in := by
  refine mk_fn (k := 0) (m := b_number_in) C.f_number_in rfl S_number_in (fun _ _ _ _ _ _ us hl => match us, hl with | [_], _ => rfl) fun f cdv A outer s H E hr => ?_
  exact (ss_cons (ss_if (st_not (st_chain opLe opLe se_int (se_callB callLen rfl C.n_len bb_len (sa_cons (se_var rfl (.inl rfl)) sa_nil)) (se_gint rfl C.g_LONGEST_NUMBER))) (ss_one (ss_ret se_non)) ss_nil)
  (ss_cons (ss_for (si_any (se_var rfl (.inl rfl))) (sg_name rfl (.inl rfl)) (ss_one (ss_if (st_cmp opNotIn (se_var rfl (.inl rfl)) (se_gstr rfl C.g_DIGITS)) (ss_one (ss_ret se_non)) ss_nil)))
  (ss_cons (ss_if (st_sw (sw_and (st_cmp opEq (se_ix (se_var rfl (.inl rfl)) se_int) se_str) (sw_and1 (st_cmp opGt (se_callB callLen rfl C.n_len bb_len (sa_cons (se_var rfl (.inl rfl)) sa_nil)) se_int)))) (ss_one (ss_ret se_non)) ss_nil)
  (ss_one (ss_ret (se_callTy callInt rfl C.n_int bb_int (sa_cons (se_var rfl (.inl rfl)) sa_nil)))))))
theorem S_integer_in : FnScope ["word", "number"] ["word"] (defScope (top 13)) := ⟨rfl, rfl, rfl, by decide +kernel, rfl, by decide +kernel, by decide +kernel⟩
theorem w_integer_in (C : Ctx P w K mg base) : Fn P w K ⟨mg, none⟩ base 2 "integer_in" m_integer_in := by
  refine mk_fn (k := 1) (m := b_integer_in) C.f_integer_in rfl S_integer_in (fun _ _ _ _ _ _ us hl => match us, hl with | [_], _ => rfl) fun f cdv A outer s H E hr => ?_
  exact (ss_cons (ss_if (st_cmp opNe (se_slice (se_var rfl (.inl rfl)) sp_none (sp_some se_int)) se_str) (ss_one (ss_retX (sx_call (k := 1) ((w_number_in C).mono (k := 1) (by omega)) (Nat.le_refl _) rfl (sr_v (se_var rfl (.inl rfl)) sr_nil)))) ss_nil)
  (ss_cons (ss_set rfl (.inl rfl) (se_sx (sx_call (k := 1) ((w_number_in C).mono (k := 1) (by omega)) (Nat.le_refl _) rfl (sr_v (se_slice (se_var rfl (.inl rfl)) (sp_some se_int) sp_none) sr_nil))))
  (ss_cons (ss_if (st_sw (sw_or (st_cmp opIsN (se_var rfl (.inl rfl)) se_non) (sw_or1 (st_cmp opEq (se_var rfl (.inl rfl)) se_int)))) (ss_one (ss_ret se_non)) ss_nil)
  (ss_one (ss_ret (se_neg (se_var rfl (.inl rfl))))))))
theorem S_fraction_in : FnScope ["word", "parts", "top", "bottom"] ["word"] (defScope (top 14)) := ⟨rfl, rfl, rfl, by decide +kernel, rfl, by decide +kernel, by decide +kernel⟩
theorem w_fraction_in (C : Ctx P w K mg base) : Fn P w K ⟨mg, none⟩ base 3 "fraction_in" m_fraction_in := by
  refine mk_fn (k := 2) (m := b_fraction_in) C.f_fraction_in rfl S_fraction_in (fun _ _ _ _ _ _ us hl => match us, hl with | [_], _ => rfl) fun f cdv A outer s H E hr => ?_
  exact (ss_cons (ss_set rfl (.inl rfl) (se_so (so_split (se_var rfl (.inl rfl)) se_str)))
  (ss_cons (ss_if (st_cmp opNe (se_callB callLen rfl C.n_len bb_len (sa_cons (se_var rfl (.inl rfl)) sa_nil)) se_int) (ss_one (ss_ret se_non)) ss_nil)
  (ss_cons (ss_set rfl (.inl rfl) (se_sx (sx_call (k := 2) ((w_integer_in C).mono (k := 2) (by omega)) (Nat.le_refl _) rfl (sr_v (se_ix (se_var rfl (.inl rfl)) se_int) sr_nil))))
  (ss_cons (ss_set rfl (.inl rfl) (se_sx (sx_call (k := 2) ((w_number_in C).mono (k := 2) (by omega)) (Nat.le_refl _) rfl (sr_v (se_ix (se_var rfl (.inl rfl)) se_int) sr_nil))))
  (ss_cons (ss_if (st_sw (sw_or (st_cmp opIsN (se_var rfl (.inl rfl)) se_non) (sw_or (st_cmp opIsN (se_var rfl (.inl rfl)) se_non) (sw_or (st_cmp opEq (se_var rfl (.inl rfl)) se_int) (sw_or1 (st_cmp opNe (se_callG callGcd rfl C.i_gcd (sa_cons (se_var rfl (.inl rfl)) (sa_cons (se_var rfl (.inl rfl)) sa_nil))) se_int)))))) (ss_one (ss_ret se_non)) ss_nil)
  (ss_one (ss_ret (se_tup (sa_cons (se_var rfl (.inl rfl)) (sa_cons (se_var rfl (.inl rfl)) sa_nil))))))))))
theorem S_format_fraction : FnScope ["part"] ["part"] (defScope (top 15)) := ⟨rfl, rfl, rfl, by decide +kernel, rfl, by decide +kernel, by decide +kernel⟩
theorem w_format_fraction (C : Ctx P w K mg base) : Fn P w K ⟨mg, none⟩ base 1 "format_fraction" m_format_fraction := by
  refine mk_fn (k := 0) (m := b_format_fraction) C.f_format_fraction rfl S_format_fraction (fun _ _ _ _ _ _ us hl => match us, hl with | [_], _ => rfl) fun f cdv A outer s H E hr => ?_
  exact (ss_one (ss_ret (se_op opAdd (se_op opAdd (se_callTy callStr rfl C.n_str bb_str (sa_cons (se_ix (se_var rfl (.inl rfl)) se_int) sa_nil)) se_str) (se_callTy callStr rfl C.n_str bb_str (sa_cons (se_ix (se_var rfl (.inl rfl)) se_int) sa_nil)))))
theorem S__read_words : FnScope ["words", "reader", "found", "word"] ["words", "reader"] (defScope (top 16)) := ⟨rfl, rfl, rfl, by decide +kernel, rfl, by decide +kernel, by decide +kernel⟩
theorem w__read_words (C : Ctx P w K mg base) : Fn P w K ⟨mg, none⟩ base 4 "_read_words" m__read_words := by
  refine mk_fn (k := 3) (m := b__read_words) C.f__read_words rfl S__read_words (fun _ _ _ _ _ _ us hl => match us, hl with | [_, _], _ => rfl) fun f cdv A outer s H E hr => ?_
  exact (ss_cons (ss_setLc (own := [("word", 3)]) (fz := true) rfl rfl rfl (si_any (se_var rfl (.inl rfl))) (blkOk_by (N := ["words", "reader", "found", "word"]) (sc := defScope (top 16)) (by decide +kernel)) (sg_name rfl (.inl rfl)) sts_nil (se_sx (sx_callL (k := 3) rfl (.inr (.inl rfl)) (tab_cons ((w_integer_in C).mono (k := 3) (by omega)) (tab_cons ((w_number_in C).mono (k := 3) (by omega)) (tab_cons ((w_fraction_in C).mono (k := 3) (by omega)) tab_nil))) (Nat.le_refl _) (sr_v (se_var rfl (.inl rfl)) sr_nil))) rfl)
  (ss_cons (ss_if (st_cmp opIn se_non (se_var rfl (.inl rfl))) (ss_one (ss_ret se_non)) ss_nil)
  (ss_one (ss_ret (se_callTy callTuple rfl C.n_tuple bb_tuple (sa_cons (se_var rfl (.inl rfl)) sa_nil))))))
theorem S_format_gains : FnScope ["gains", "lines", "outcome", "first", "second"] ["gains"] (defScope (top 17)) := ⟨rfl, rfl, rfl, by decide +kernel, rfl, by decide +kernel, by decide +kernel⟩
theorem w_format_gains (C : Ctx P w K mg base) : Fn P w K ⟨mg, none⟩ base 1 "format_gains" m_format_gains := by
  refine mk_fn (k := 0) (m := b_format_gains) C.f_format_gains rfl S_format_gains (fun _ _ _ _ _ _ us hl => match us, hl with | [_], _ => rfl) fun f cdv A outer s H E hr => ?_
  exact (ss_cons (ss_setO rfl (.inl rfl) (so_lst sa_nil))
  (ss_cons (ss_for (si_any (se_so (so_sortK (se_var rfl (.inl rfl)) rfl C.n_sorted))) (sg_name rfl (.inl rfl)) (ss_cons (ss_asg (se_ix (se_var rfl (.inl rfl)) (se_var rfl (.inl rfl))) (sg_tup (sgs_cons (sg_name rfl (.inl rfl)) (sgs_cons (sg_name rfl (.inl rfl)) sgs_nil))))
  (ss_one (ss_append rfl (.inl rfl) (se_op opAdd (se_op opAdd (se_op opAdd (se_op opAdd (se_op opAdd se_str (se_var rfl (.inl rfl))) se_str) (se_callTy callStr rfl C.n_str bb_str (sa_cons (se_var rfl (.inl rfl)) sa_nil))) se_str) (se_callTy callStr rfl C.n_str bb_str (sa_cons (se_var rfl (.inl rfl)) sa_nil)))))))
  (ss_one (ss_ret (se_join se_str (sq_own rfl (.inl rfl)))))))
theorem S_read_gain : FnScope ["line", "words", "pair"] ["line"] (defScope (top 18)) := ⟨rfl, rfl, rfl, by decide +kernel, rfl, by decide +kernel, by decide +kernel⟩
theorem w_read_gain (C : Ctx P w K mg base) : Fn P w K ⟨mg, none⟩ base 5 "read_gain" m_read_gain := by
  refine mk_fn (k := 4) (m := b_read_gain) C.f_read_gain rfl S_read_gain (fun _ _ _ _ _ _ us hl => match us, hl with | [_], _ => rfl) fun f cdv A outer s H E hr => ?_
  exact (ss_cons (ss_set rfl (.inl rfl) (se_so (so_split (se_var rfl (.inl rfl)) se_str)))
  (ss_cons (ss_if (st_sw (sw_or (st_cmp opNe (se_callB callLen rfl C.n_len bb_len (sa_cons (se_var rfl (.inl rfl)) sa_nil)) se_int) (sw_or (st_cmp opNe (se_ix (se_var rfl (.inl rfl)) se_int) se_str) (sw_or1 (st_not (st_val (se_sx (sx_call (k := 4) ((w_is_name C).mono (k := 4) (by omega)) (Nat.le_refl _) rfl (sr_v (se_ix (se_var rfl (.inl rfl)) se_int) sr_nil))))))))) (ss_one (ss_ret se_non)) ss_nil)
  (ss_cons (ss_set rfl (.inl rfl) (se_sx (sx_call (k := 4) ((w__read_words C).mono (k := 4) (by omega)) (Nat.le_refl _) rfl (sr_v (se_slice (se_var rfl (.inl rfl)) (sp_some se_int) sp_none) (sr_v (se_gfnD rfl C.f_integer_in) sr_nil)))))
  (ss_cons (ss_if (st_cmp opIsN (se_var rfl (.inl rfl)) se_non) (ss_one (ss_ret se_non)) ss_nil)
  (ss_one (ss_ret (se_tup (sa_cons (se_ix (se_var rfl (.inl rfl)) se_int) (sa_cons (se_var rfl (.inl rfl)) sa_nil)))))))))
theorem S_read_gains : FnScope ["text", "gains", "last", "index", "line", "found"] ["text"] (defScope (top 19)) := ⟨rfl, rfl, rfl, by decide +kernel, rfl, by decide +kernel, by decide +kernel⟩
theorem w_read_gains (C : Ctx P w K mg base) : Fn P w K ⟨mg, none⟩ base 6 "read_gains" m_read_gains := by
  refine mk_fn (k := 5) (m := b_read_gains) C.f_read_gains rfl S_read_gains (fun _ _ _ _ _ _ us hl => match us, hl with | [_], _ => rfl) fun f cdv A outer s H E hr => ?_
  exact (ss_cons (ss_setO rfl (.inl rfl) so_dict0)
  (ss_cons (ss_if (st_cmp opEq (se_var rfl (.inl rfl)) se_str) (ss_one (ss_retV rfl (.inl rfl))) ss_nil)
  (ss_cons (ss_set rfl (.inl rfl) se_str)
  (ss_cons (ss_for (si_enum (se_so (so_split (se_var rfl (.inl rfl)) se_str)) rfl C.n_enumerate) (sg_tup (sgs_cons (sg_name rfl (.inl rfl)) (sgs_cons (sg_name rfl (.inl rfl)) sgs_nil))) (ss_cons (ss_set rfl (.inl rfl) (se_sx (sx_call (k := 5) ((w_read_gain C).mono (k := 5) (by omega)) (Nat.le_refl _) rfl (sr_v (se_var rfl (.inl rfl)) sr_nil))))
  (ss_cons (ss_if (st_sw (sw_or (st_cmp opIsN (se_var rfl (.inl rfl)) se_non) (sw_or1 (st_not (st_cmp opLt (se_var rfl (.inl rfl)) (se_ix (se_var rfl (.inl rfl)) se_int)))))) (ss_one (ss_raiseP rfl C.pay_BadText (show 2 ≤ 5 by omega) rfl (se_op opAdd (se_var rfl (.inl rfl)) se_int))) ss_nil)
  (ss_cons (ss_set rfl (.inl rfl) (se_ix (se_var rfl (.inl rfl)) se_int))
  (ss_one (ss_setK rfl (.inl rfl) (se_ix (se_var rfl (.inl rfl)) se_int) (se_var rfl (.inl rfl))))))))
  (ss_one (ss_retV rfl (.inl rfl)))))))
theorem S_format_lot : FnScope ["lot", "weight"] ["lot"] (defScope (top 20)) := ⟨rfl, rfl, rfl, by decide +kernel, rfl, by decide +kernel, by decide +kernel⟩
theorem w_format_lot (C : Ctx P w K mg base) : Fn P w K ⟨mg, none⟩ base 1 "format_lot" m_format_lot := by
  refine mk_fn (k := 0) (m := b_format_lot) C.f_format_lot rfl S_format_lot (fun _ _ _ _ _ _ us hl => match us, hl with | [_], _ => rfl) fun f cdv A outer s H E hr => ?_
  exact (ss_one (ss_ret (se_join se_str (sq_of (se_so (so_cat (se_so (so_lst (sa_cons se_str sa_nil))) (sq_of (se_so (so_lc (own := [("weight", 1)]) (si_any (se_var rfl (.inl rfl))) (blkOk_by (N := ["lot", "weight"]) (sc := defScope (top 20)) (by decide +kernel)) (sg_name rfl (.inl rfl)) sts_nil (se_callTy callStr rfl C.n_str bb_str (sa_cons (se_var rfl (.inl rfl)) sa_nil)) rfl)))))))))
theorem S_read_lot : FnScope ["line", "words", "lot"] ["line"] (defScope (top 21)) := ⟨rfl, rfl, rfl, by decide +kernel, rfl, by decide +kernel, by decide +kernel⟩
theorem w_read_lot (C : Ctx P w K mg base) : Fn P w K ⟨mg, none⟩ base 5 "read_lot" m_read_lot := by
  refine mk_fn (k := 4) (m := b_read_lot) C.f_read_lot rfl S_read_lot (fun _ _ _ _ _ _ us hl => match us, hl with | [_], _ => rfl) fun f cdv A outer s H E hr => ?_
  exact (ss_cons (ss_set rfl (.inl rfl) (se_so (so_split (se_var rfl (.inl rfl)) se_str)))
  (ss_cons (ss_if (st_sw (sw_or (st_cmp opNe (se_ix (se_var rfl (.inl rfl)) se_int) se_str) (sw_or1 (st_cmp opLt (se_callB callLen rfl C.n_len bb_len (sa_cons (se_var rfl (.inl rfl)) sa_nil)) se_int)))) (ss_one (ss_ret se_non)) ss_nil)
  (ss_cons (ss_set rfl (.inl rfl) (se_sx (sx_call (k := 4) ((w__read_words C).mono (k := 4) (by omega)) (Nat.le_refl _) rfl (sr_v (se_slice (se_var rfl (.inl rfl)) (sp_some se_int) sp_none) (sr_v (se_gfnD rfl C.f_number_in) sr_nil)))))
  (ss_cons (ss_if (st_sw (sw_or (st_cmp opIsN (se_var rfl (.inl rfl)) se_non) (sw_or1 (st_cmp opEq (se_callQ (byB (cMaxA rfl) rfl C.n_max bb_max) qMaxA (sq_of (se_var rfl (.inl rfl))) (u := .none)) se_int)))) (ss_one (ss_ret se_non)) ss_nil)
  (ss_one (ss_ret (se_var rfl (.inl rfl))))))))
theorem S_format_parts : FnScope ["word", "parts", "part"] ["word", "parts"] (defScope (top 22)) := ⟨rfl, rfl, rfl, by decide +kernel, rfl, by decide +kernel, by decide +kernel⟩
theorem w_format_parts (C : Ctx P w K mg base) : Fn P w K ⟨mg, none⟩ base 2 "format_parts" m_format_parts := by
  refine mk_fn (k := 1) (m := b_format_parts) C.f_format_parts rfl S_format_parts (fun _ _ _ _ _ _ us hl => match us, hl with | [_, _], _ => rfl) fun f cdv A outer s H E hr => ?_
  exact (ss_one (ss_ret (se_join se_str (sq_of (se_so (so_cat (se_so (so_lst (sa_cons (se_var rfl (.inl rfl)) sa_nil))) (sq_of (se_so (so_lc (own := [("part", 2)]) (si_any (se_var rfl (.inl rfl))) (blkOk_by (N := ["word", "parts", "part"]) (sc := defScope (top 22)) (by decide +kernel)) (sg_name rfl (.inl rfl)) sts_nil (se_sx (sx_call (k := 1) ((w_format_fraction C).mono (k := 1) (by omega)) (Nat.le_refl _) rfl (sr_v (se_var rfl (.inl rfl)) sr_nil))) rfl)))))))))
theorem S_read_parts : FnScope ["word", "line", "words"] ["word", "line"] (defScope (top 23)) := ⟨rfl, rfl, rfl, by decide +kernel, rfl, by decide +kernel, by decide +kernel⟩
theorem w_read_parts (C : Ctx P w K mg base) : Fn P w K ⟨mg, none⟩ base 5 "read_parts" m_read_parts := by
  refine mk_fn (k := 4) (m := b_read_parts) C.f_read_parts rfl S_read_parts (fun _ _ _ _ _ _ us hl => match us, hl with | [_, _], _ => rfl) fun f cdv A outer s H E hr => ?_
  exact (ss_cons (ss_set rfl (.inl rfl) (se_so (so_split (se_var rfl (.inl rfl)) se_str)))
  (ss_cons (ss_if (st_cmp opNe (se_ix (se_var rfl (.inl rfl)) se_int) (se_var rfl (.inl rfl))) (ss_one (ss_ret se_non)) ss_nil)
  (ss_one (ss_retX (sx_call (k := 4) ((w__read_words C).mono (k := 4) (by omega)) (Nat.le_refl _) rfl (sr_v (se_slice (se_var rfl (.inl rfl)) (sp_some se_int) sp_none) (sr_v (se_gfnD rfl C.f_fraction_in) sr_nil)))))))
theorem S__law_source : FnScope ["script", "mixed", "cell"] ["script"] (defScope (top 25)) := ⟨rfl, rfl, rfl, by decide +kernel, rfl, by decide +kernel, by decide +kernel⟩
theorem w__law_source (C : Ctx P w K mg base) : Fn P w K ⟨mg, none⟩ base 1 "_law_source" m__law_source := by
  refine mk_fn (k := 0) (m := b__law_source) C.f__law_source rfl S__law_source (fun _ _ _ _ _ _ us hl => match us, hl with | [_], _ => rfl) fun f cdv A outer s H E hr => ?_
  exact (ss_cons (ss_set rfl (.inl rfl) se_int)
  (ss_cons (ss_for (si_any (se_var rfl (.inl rfl))) (sg_name rfl (.inl rfl)) (ss_one (ss_set rfl (.inl rfl) (se_op opMod (se_callTy callInt rfl C.n_int bb_int (sa_cons (se_op opAdd (se_op opAdd (se_op opMul (se_var rfl (.inl rfl)) se_int) (se_op opMul (se_var rfl (.inl rfl)) se_int)) se_int) sa_nil)) se_int))))
  (ss_one (ss_retO (so_lst (sa_cons se_int (sa_cons se_int (sa_cons (se_var rfl (.inl rfl)) sa_nil))))))))
theorem S__law_draw : FnScope ["script", "source", "limit", "cell", "found"] ["script", "source", "limit"] (defScope (top 26)) := ⟨rfl, rfl, rfl, by decide +kernel, rfl, by decide +kernel, by decide +kernel⟩
theorem w__law_draw (C : Ctx P w K mg base) : Fn P w K ⟨mg, none⟩ base 1 "_law_draw" m__law_draw := by
  refine mk_fn (k := 0) (m := b__law_draw) C.f__law_draw rfl S__law_draw (fun _ _ _ _ _ _ us hl => match us, hl with | [_, _, _], _ => rfl) fun f cdv A outer s H E hr => ?_
  exact (ss_cons (ss_if (st_sw (sw_and (st_cmp opEq (se_ixO rfl (.inl rfl) se_int) se_int) (sw_and1 (st_cmp opLt (se_ixO rfl (.inl rfl) se_int) (se_callB callLen rfl C.n_len bb_len (sa_cons (se_var rfl (.inl rfl)) sa_nil)))))) (ss_cons (ss_set rfl (.inl rfl) (se_callB callAbs rfl C.n_abs bb_abs (sa_cons (se_ix (se_var rfl (.inl rfl)) (se_ixO rfl (.inl rfl) se_int)) sa_nil)))
  (ss_cons (ss_setIx rfl (.inl rfl) (se_op opAdd (se_ixO rfl (.inl rfl) se_int) se_int) se_int)
  (ss_cons (ss_if (st_cmp opLt (se_var rfl (.inl rfl)) (se_op opPow se_int se_int)) (ss_cons (ss_set rfl (.inl rfl) (se_op opMod (se_callTy callInt rfl C.n_int bb_int (sa_cons (se_op opAdd (se_op opAdd (se_op opMul (se_var rfl (.inl rfl)) se_int) (se_op opMul (se_ixO rfl (.inl rfl) se_int) se_int)) (se_ixO rfl (.inl rfl) se_int)) sa_nil)) se_int))
  (ss_one (ss_set rfl (.inl rfl) (se_op opMod (se_callTy callInt rfl C.n_int bb_int (sa_cons (se_op opAdd (se_op opAdd (se_op opMul (se_var rfl (.inl rfl)) (se_var rfl (.inl rfl))) (se_op opMul (se_var rfl (.inl rfl)) se_int)) (se_ixO rfl (.inl rfl) se_int)) sa_nil)) se_int)))) ss_nil)
  (ss_one (ss_setIx rfl (.inl rfl) (se_var rfl (.inl rfl)) se_int))))) ss_nil)
  (ss_cons (ss_if (st_cmp opGt (se_ixO rfl (.inl rfl) se_int) se_int) (ss_cons (ss_set rfl (.inl rfl) (se_op opMod (se_callTy callInt rfl C.n_int bb_int (sa_cons (se_ixO rfl (.inl rfl) se_int) sa_nil)) (se_var rfl (.inl rfl))))
  (ss_cons (ss_setIx rfl (.inl rfl) (se_op opFdiv (se_ixO rfl (.inl rfl) se_int) (se_var rfl (.inl rfl))) se_int)
  (ss_one (ss_ret (se_var rfl (.inl rfl)))))) ss_nil)
  (ss_cons (ss_setIx rfl (.inl rfl) (se_op opMod (se_callTy callInt rfl C.n_int bb_int (sa_cons (se_op opAdd (se_op opMul (se_ixO rfl (.inl rfl) se_int) se_int) se_int) sa_nil)) se_int) se_int)
  (ss_one (ss_ret (se_op opMod (se_callTy callInt rfl C.n_int bb_int (sa_cons (se_op opFdiv (se_ixO rfl (.inl rfl) se_int) se_int) sa_nil)) (se_var rfl (.inl rfl))))))))
theorem S__law_name : FnScope ["script", "source", "used", "letters", "signs", "name", "k", "base"] ["script", "source", "used"] (defScope (top 27)) := ⟨rfl, rfl, rfl, by decide +kernel, rfl, by decide +kernel, by decide +kernel⟩
theorem w__law_name (C : Ctx P w K mg base) : Fn P w K ⟨mg, none⟩ base 2 "_law_name" m__law_name := by
  refine mk_fn (k := 1) (m := b__law_name) C.f__law_name rfl S__law_name (fun _ _ _ _ _ _ us hl => match us, hl with | [_, _, _], _ => rfl) fun f cdv A outer s H E hr => ?_
  exact (ss_cons (ss_set rfl (.inl rfl) se_str)
  (ss_cons (ss_set rfl (.inl rfl) (se_op opAdd (se_var rfl (.inl rfl)) se_str))
  (ss_cons (ss_set rfl (.inl rfl) (se_ix (se_var rfl (.inl rfl)) (se_sx (sx_call (k := 1) ((w__law_draw C).mono (k := 1) (by omega)) (Nat.le_refl _) rfl (sr_v (se_var rfl (.inl rfl)) (sr_r rfl (.inl rfl) (sr_v se_int sr_nil)))))))
  (ss_cons (ss_for (si_rng1 rfl C.n_range (se_sx (sx_call (k := 1) ((w__law_draw C).mono (k := 1) (by omega)) (Nat.le_refl _) rfl (sr_v (se_var rfl (.inl rfl)) (sr_r rfl (.inl rfl) (sr_v se_int sr_nil)))))) (sg_name rfl (.inl rfl)) (ss_one (ss_set rfl (.inl rfl) (se_op opAdd (se_var rfl (.inl rfl)) (se_ix (se_var rfl (.inl rfl)) (se_sx (sx_call (k := 1) ((w__law_draw C).mono (k := 1) (by omega)) (Nat.le_refl _) rfl (sr_v (se_var rfl (.inl rfl)) (sr_r rfl (.inl rfl) (sr_v se_int sr_nil))))))))))
  (ss_cons (ss_if (st_cmp opEq (se_sx (sx_call (k := 1) ((w__law_draw C).mono (k := 1) (by omega)) (Nat.le_refl _) rfl (sr_v (se_var rfl (.inl rfl)) (sr_r rfl (.inl rfl) (sr_v se_int sr_nil))))) se_int) (ss_one (ss_set rfl (.inl rfl) (se_ix (se_so (so_lst (sa_cons se_str (sa_cons se_str (sa_cons se_str (sa_cons se_str (sa_cons se_str (sa_cons se_str sa_nil)))))))) (se_sx (sx_call (k := 1) ((w__law_draw C).mono (k := 1) (by omega)) (Nat.le_refl _) rfl (sr_v (se_var rfl (.inl rfl)) (sr_r rfl (.inl rfl) (sr_v se_int sr_nil)))))))) ss_nil)
  (ss_cons (ss_set rfl (.inl rfl) (se_var rfl (.inl rfl)))
  (ss_cons (ss_for (si_rng1 rfl C.n_range (se_op opAdd (se_callB callLen rfl C.n_len bb_len (sa_cons (se_var rfl (.inl rfl)) sa_nil)) se_int)) (sg_name rfl (.inl rfl)) (ss_one (ss_if (st_cmp opIn (se_var rfl (.inl rfl)) (se_var rfl (.inl rfl))) (ss_one (ss_set rfl (.inl rfl) (se_op opAdd (se_var rfl (.inl rfl)) (se_callTy callStr rfl C.n_str bb_str (sa_cons (se_var rfl (.inl rfl)) sa_nil))))) ss_nil)))
  (ss_one (ss_ret (se_var rfl (.inl rfl)))))))))))
theorem S__law_gcd : FnScope ["a", "b", "k"] ["a", "b"] (defScope (top 28)) := ⟨rfl, rfl, rfl, by decide +kernel, rfl, by decide +kernel, by decide +kernel⟩
theorem w__law_gcd (C : Ctx P w K mg base) : Fn P w K ⟨mg, none⟩ base 1 "_law_gcd" m__law_gcd := by
  refine mk_fn (k := 0) (m := b__law_gcd) C.f__law_gcd rfl S__law_gcd (fun _ _ _ _ _ _ us hl => match us, hl with | [_, _], _ => rfl) fun f cdv A outer s H E hr => ?_
  exact (ss_cons (ss_for (si_rng1 rfl C.n_range (se_op opAdd (se_op opMul se_int (se_bits (se_callTy callInt rfl C.n_int bb_int (sa_cons (se_var rfl (.inl rfl)) sa_nil)))) se_int)) (sg_name rfl (.inl rfl)) (ss_cons (ss_if (st_cmp opEq (se_var rfl (.inl rfl)) se_int) (ss_one (ss_ret (se_var rfl (.inl rfl)))) ss_nil)
  (ss_one (ss_par rfl rfl (by decide) rfl rfl (sa_cons (se_var rfl (.inl rfl)) (sa_cons (se_op opMod (se_callTy callInt rfl C.n_int bb_int (sa_cons (se_var rfl (.inl rfl)) sa_nil)) (se_var rfl (.inl rfl))) sa_nil)) rfl (by rfl)))))
  (ss_one (ss_ret (se_var rfl (.inl rfl)))))
theorem S__law_is_name : FnScope ["word", "letters", "sign"] ["word"] (defScope (top 29)) := ⟨rfl, rfl, rfl, by decide +kernel, rfl, by decide +kernel, by decide +kernel⟩
theorem w__law_is_name (C : Ctx P w K mg base) : Fn P w K ⟨mg, none⟩ base 1 "_law_is_name" m__law_is_name := by
  refine mk_fn (k := 0) (m := b__law_is_name) C.f__law_is_name rfl S__law_is_name (fun _ _ _ _ _ _ us hl => match us, hl with | [_], _ => rfl) fun f cdv A outer s H E hr => ?_
  exact (ss_cons (ss_set rfl (.inr rfl) se_str)
  (ss_cons (ss_if (st_sw (sw_or (st_not (st_chain opLe opLe se_int (se_callB callLen rfl C.n_len bb_len (sa_cons (se_var rfl (.inl rfl)) sa_nil)) se_int)) (sw_or1 (st_cmp opNotIn (se_ix (se_var rfl (.inl rfl)) se_int) (se_var rfl (.inr (.inl rfl))))))) (ss_one (ss_ret se_bl)) ss_nil)
  (ss_one (ss_ret (se_cmp opEq (se_callB callLen rfl C.n_len bb_len (sa_cons (se_so (so_lc (own := [("sign", 2)]) (si_any (se_var rfl (.inl rfl))) (blkOk_by (N := ["word", "letters", "sign"]) (sc := defScope (top 29)) (by decide +kernel)) (sg_name rfl (.inl rfl)) (sts_one (st_sw (sw_and (st_cmp opNotIn (se_var rfl (.inl rfl)) (se_var rfl (.inr (.inl rfl)))) (sw_and1 (st_cmp opNotIn (se_var rfl (.inl rfl)) se_str))))) (se_var rfl (.inl rfl)) rfl)) sa_nil)) se_int)))))
theorem S__law_told : FnScope ["answer", "due", "k", "name"] ["answer", "due"] (defScope (top 30)) := ⟨rfl, rfl, rfl, by decide +kernel, rfl, by decide +kernel, by decide +kernel⟩
theorem w__law_told (C : Ctx P w K mg base) (n : Nat) : Fn P w K ⟨mg, none⟩ base (0 + n) "_law_told" (m__law_told n) := by
  induction n with
  | zero => exact fn_zero C.f__law_told rfl S__law_told (fun _ _ _ _ _ _ us hl => match us, hl with | [_, _], _ => rfl)
  | succ n ih =>
    refine mk_fn (k := 0 + n) (m := b__law_told (m__law_told n)) C.f__law_told rfl S__law_told (fun _ _ _ _ _ _ us hl => match us, hl with | [_, _], _ => rfl) fun f cdv A outer s H E hr => ?_
    exact (ss_cons (ss_if (st_cmp opIsN (se_var rfl (.inr (.inl rfl))) se_non) (ss_one (ss_ret (se_cmp opIsN (se_var rfl (.inr (.inl rfl))) se_non))) ss_nil)
  (ss_cons (ss_if (st_sw (sw_or (st_val (se_isi .bool (se_var rfl (.inr (.inl rfl))) rfl C.n_isinstance rfl C.n_bool bb_bool)) (sw_or1 (st_val (se_isi .bool (se_var rfl (.inr (.inl rfl))) rfl C.n_isinstance rfl C.n_bool bb_bool))))) (ss_one (ss_ret (se_and (se_isi .bool (se_var rfl (.inr (.inl rfl))) rfl C.n_isinstance rfl C.n_bool bb_bool) (se_and (se_isi .bool (se_var rfl (.inr (.inl rfl))) rfl C.n_isinstance rfl C.n_bool bb_bool) (se_one (se_cmp opEq (se_var rfl (.inr (.inl rfl))) (se_var rfl (.inr (.inl rfl))))))))) ss_nil)
  (ss_cons (ss_if (st_val (se_isi .int (se_var rfl (.inr (.inl rfl))) rfl C.n_isinstance rfl C.n_int bb_int)) (ss_one (ss_ret (se_and (se_isi .int (se_var rfl (.inr (.inl rfl))) rfl C.n_isinstance rfl C.n_int bb_int) (se_one (se_cmp opEq (se_var rfl (.inr (.inl rfl))) (se_var rfl (.inr (.inl rfl)))))))) ss_nil)
  (ss_cons (ss_if (st_val (se_isi .str (se_var rfl (.inr (.inl rfl))) rfl C.n_isinstance rfl C.n_str bb_str)) (ss_one (ss_ret (se_and (se_isi .str (se_var rfl (.inr (.inl rfl))) rfl C.n_isinstance rfl C.n_str bb_str) (se_one (se_cmp opEq (se_var rfl (.inr (.inl rfl))) (se_var rfl (.inr (.inl rfl)))))))) ss_nil)
  (ss_cons (ss_if (st_val (se_isi .dct (se_var rfl (.inr (.inl rfl))) rfl C.n_isinstance rfl C.n_dict bb_dict)) (ss_cons (ss_if (st_sw (sw_or (st_not (st_val (se_isi .dct (se_var rfl (.inr (.inl rfl))) rfl C.n_isinstance rfl C.n_dict bb_dict))) (sw_or1 (st_cmp opNe (se_so (so_sortK (se_var rfl (.inr (.inl rfl))) rfl C.n_sorted)) (se_so (so_sortK (se_var rfl (.inr (.inl rfl))) rfl C.n_sorted)))))) (ss_one (ss_ret se_bl)) ss_nil)
  (ss_one (ss_ret (se_cmp opEq (se_callB callLen rfl C.n_len bb_len (sa_cons (se_so (so_lc (own := [("name", 3)]) (si_keys (se_var rfl (.inr (.inl rfl)))) (blkOk_by (N := ["answer", "due", "k", "name"]) (sc := defScope (top 30)) (by decide +kernel)) (sg_name rfl (.inl rfl)) (sts_one (st_not (st_val (se_sx (sx_call (k := 0 + n) ih (Nat.le_refl _) rfl (sr_v (se_ix (se_var rfl (.inr (.inl rfl))) (se_var rfl (.inl rfl))) (sr_v (se_ix (se_var rfl (.inr (.inl rfl))) (se_var rfl (.inl rfl))) sr_nil))))))) (se_var rfl (.inl rfl)) rfl)) sa_nil)) se_int)))) ss_nil)
  (ss_cons (ss_if (st_sw (sw_or (st_cmp opNe (se_isi .tup (se_var rfl (.inr (.inl rfl))) rfl C.n_isinstance rfl C.n_tuple bb_tuple) (se_isi .tup (se_var rfl (.inr (.inl rfl))) rfl C.n_isinstance rfl C.n_tuple bb_tuple)) (sw_or1 (st_cmp opNe (se_isi .lst (se_var rfl (.inr (.inl rfl))) rfl C.n_isinstance rfl C.n_list bb_list) (se_isi .lst (se_var rfl (.inr (.inl rfl))) rfl C.n_isinstance rfl C.n_list bb_list))))) (ss_one (ss_ret se_bl)) ss_nil)
  (ss_cons (ss_if (st_sw (sw_or (st_not (st_val (se_isiT (se_var rfl (.inr (.inl rfl))) rfl C.n_isinstance (tys_cons .tup rfl C.n_tuple bb_tuple (tys_cons .lst rfl C.n_list bb_list tys_nil))))) (sw_or1 (st_cmp opNe (se_callB callLen rfl C.n_len bb_len (sa_cons (se_var rfl (.inr (.inl rfl))) sa_nil)) (se_callB callLen rfl C.n_len bb_len (sa_cons (se_var rfl (.inr (.inl rfl))) sa_nil)))))) (ss_one (ss_ret se_bl)) ss_nil)
  (ss_cons (ss_for (si_rng1 rfl C.n_range (se_callB callLen rfl C.n_len bb_len (sa_cons (se_var rfl (.inr (.inl rfl))) sa_nil))) (sg_name rfl (.inl rfl)) (ss_one (ss_if (st_not (st_val (se_sx (sx_call (k := 0 + n) ih (Nat.le_refl _) rfl (sr_v (se_ix (se_var rfl (.inr (.inl rfl))) (se_var rfl (.inl rfl))) (sr_v (se_ix (se_var rfl (.inr (.inl rfl))) (se_var rfl (.inl rfl))) sr_nil)))))) (ss_one (ss_ret se_bl)) ss_nil)))
  (ss_one (ss_ret se_bl))))))))))
theorem S__law_fraction : FnScope ["top", "bottom", "common"] ["top", "bottom"] (defScope (top 31)) := ⟨rfl, rfl, rfl, by decide +kernel, rfl, by decide +kernel, by decide +kernel⟩
theorem w__law_fraction (C : Ctx P w K mg base) : Fn P w K ⟨mg, none⟩ base 2 "_law_fraction" m__law_fraction := by
  refine mk_fn (k := 1) (m := b__law_fraction) C.f__law_fraction rfl S__law_fraction (fun _ _ _ _ _ _ us hl => match us, hl with | [_, _], _ => rfl) fun f cdv A outer s H E hr => ?_
  exact (ss_cons (ss_if (st_cmp opLt (se_var rfl (.inl rfl)) se_int) (ss_one (ss_par rfl rfl (by decide) rfl rfl (sa_cons (se_neg (se_var rfl (.inl rfl))) (sa_cons (se_neg (se_var rfl (.inl rfl))) sa_nil)) rfl (by rfl))) ss_nil)
  (ss_cons (ss_set rfl (.inl rfl) (se_sx (sx_call (k := 1) ((w__law_gcd C).mono (k := 1) (by omega)) (Nat.le_refl _) rfl (sr_v (se_callB callAbs rfl C.n_abs bb_abs (sa_cons (se_var rfl (.inl rfl)) sa_nil)) (sr_v (se_var rfl (.inl rfl)) sr_nil)))))
  (ss_one (ss_ret (se_tup (sa_cons (se_op opFdiv (se_var rfl (.inl rfl)) (se_var rfl (.inl rfl))) (sa_cons (se_op opFdiv (se_var rfl (.inl rfl)) (se_var rfl (.inl rfl))) sa_nil)))))))
theorem S__law_gain : FnScope ["script", "source", "style", "number"] ["script", "source", "style"] (defScope (top 32)) := ⟨rfl, rfl, rfl, by decide +kernel, rfl, by decide +kernel, by decide +kernel⟩
theorem w__law_gain (C : Ctx P w K mg base) : Fn P w K ⟨mg, none⟩ base 2 "_law_gain" m__law_gain := by
  refine mk_fn (k := 1) (m := b__law_gain) C.f__law_gain rfl S__law_gain (fun _ _ _ _ _ _ us hl => match us, hl with | [_, _, _], _ => rfl) fun f cdv A outer s H E hr => ?_
  exact (ss_cons (ss_if (st_cmp opEq (se_var rfl (.inl rfl)) se_int) (ss_one (ss_ret (se_op opSub (se_sx (sx_call (k := 1) ((w__law_draw C).mono (k := 1) (by omega)) (Nat.le_refl _) rfl (sr_v (se_var rfl (.inl rfl)) (sr_r rfl (.inl rfl) (sr_v se_int sr_nil))))) se_int))) ss_nil)
  (ss_cons (ss_if (st_cmp opEq (se_var rfl (.inl rfl)) se_int) (ss_one (ss_ret (se_op opSub (se_sx (sx_call (k := 1) ((w__law_draw C).mono (k := 1) (by omega)) (Nat.le_refl _) rfl (sr_v (se_var rfl (.inl rfl)) (sr_r rfl (.inl rfl) (sr_v se_int sr_nil))))) se_int))) ss_nil)
  (ss_cons (ss_set rfl (.inl rfl) (se_op opAdd (se_op opMul (se_sx (sx_call (k := 1) ((w__law_draw C).mono (k := 1) (by omega)) (Nat.le_refl _) rfl (sr_v (se_var rfl (.inl rfl)) (sr_r rfl (.inl rfl) (sr_v (se_op opPow se_int se_int) sr_nil))))) (se_op opPow se_int se_int)) (se_sx (sx_call (k := 1) ((w__law_draw C).mono (k := 1) (by omega)) (Nat.le_refl _) rfl (sr_v (se_var rfl (.inl rfl)) (sr_r rfl (.inl rfl) (sr_v (se_op opPow se_int se_int) sr_nil)))))))
  (ss_cons (ss_if (st_cmp opEq (se_sx (sx_call (k := 1) ((w__law_draw C).mono (k := 1) (by omega)) (Nat.le_refl _) rfl (sr_v (se_var rfl (.inl rfl)) (sr_r rfl (.inl rfl) (sr_v se_int sr_nil))))) se_int) (ss_one (ss_ret (se_neg (se_var rfl (.inl rfl))))) ss_nil)
  (ss_one (ss_ret (se_var rfl (.inl rfl))))))))
theorem S__law_lot : FnScope ["script", "source", "count", "style", "lot", "k", "weight"] ["script", "source", "count"] (defScope (top 33)) := ⟨rfl, rfl, rfl, by decide +kernel, rfl, by decide +kernel, by decide +kernel⟩
theorem w__law_lot (C : Ctx P w K mg base) : Fn P w K ⟨mg, none⟩ base 2 "_law_lot" m__law_lot := by
  refine mk_fn (k := 1) (m := b__law_lot) C.f__law_lot rfl S__law_lot (fun _ _ _ _ _ _ us hl => match us, hl with | [_, _, _], _ => rfl) fun f cdv A outer s H E hr => ?_
  exact (ss_cons (ss_set rfl (.inl rfl) (se_sx (sx_call (k := 1) ((w__law_draw C).mono (k := 1) (by omega)) (Nat.le_refl _) rfl (sr_v (se_var rfl (.inl rfl)) (sr_r rfl (.inl rfl) (sr_v se_int sr_nil))))))
  (ss_cons (ss_setO rfl (.inl rfl) (so_lst sa_nil))
  (ss_cons (ss_for (si_rng1 rfl C.n_range (se_var rfl (.inl rfl))) (sg_name rfl (.inl rfl)) (ss_cons (ss_set rfl (.inl rfl) (se_sx (sx_call (k := 1) ((w__law_draw C).mono (k := 1) (by omega)) (Nat.le_refl _) rfl (sr_v (se_var rfl (.inl rfl)) (sr_r rfl (.inl rfl) (sr_v se_int sr_nil))))))
  (ss_cons (ss_if (st_sw (sw_and (st_cmp opEq (se_var rfl (.inl rfl)) se_int) (sw_and1 (st_cmp opLt (se_var rfl (.inl rfl)) se_int)))) (ss_one (ss_set rfl (.inl rfl) se_int)) ss_nil)
  (ss_one (ss_append rfl (.inl rfl) (se_var rfl (.inl rfl)))))))
  (ss_cons (ss_if (st_sw (sw_or (st_cmp opEq (se_var rfl (.inl rfl)) se_int) (sw_or1 (st_cmp opEq (se_callQ (byB (cSumQ rfl) rfl C.n_sum bb_sum) qSum (sq_own rfl (.inl rfl)) (u := .none)) se_int)))) (ss_cons (ss_setLc (own := [("k", 5)]) (fz := false) rfl rfl rfl (si_rng1 rfl C.n_range (se_var rfl (.inl rfl))) (blkOk_by (N := ["script", "source", "count", "style", "lot", "k", "weight"]) (sc := defScope (top 33)) (by decide +kernel)) (sg_name rfl (.inl rfl)) sts_nil se_int rfl)
  (ss_one (ss_setIx rfl (.inl rfl) se_int (se_sx (sx_call (k := 1) ((w__law_draw C).mono (k := 1) (by omega)) (Nat.le_refl _) rfl (sr_v (se_var rfl (.inl rfl)) (sr_r rfl (.inl rfl) (sr_v (se_var rfl (.inl rfl)) sr_nil)))))))) ss_nil)
  (ss_one (ss_ret (se_callQ (byT cTupQ rfl C.n_tuple bb_tuple) qTup (sq_own rfl (.inl rfl)) (u := .none))))))))
theorem S__law_own_number : FnScope ["word", "sign"] ["word"] (defScope (top 34)) := ⟨rfl, rfl, rfl, by decide +kernel, rfl, by decide +kernel, by decide +kernel⟩
theorem w__law_own_number (C : Ctx P w K mg base) : Fn P w K ⟨mg, none⟩ base 1 "_law_own_number" m__law_own_number := by
  refine mk_fn (k := 0) (m := b__law_own_number) C.f__law_own_number rfl S__law_own_number (fun _ _ _ _ _ _ us hl => match us, hl with | [_], _ => rfl) fun f cdv A outer s H E hr => ?_
  exact (ss_cons (ss_if (st_sw (sw_or (st_cmp opLt (se_callB callLen rfl C.n_len bb_len (sa_cons (se_var rfl (.inl rfl)) sa_nil)) se_int) (sw_or (st_cmp opGt (se_callB callLen rfl C.n_len bb_len (sa_cons (se_var rfl (.inl rfl)) sa_nil)) se_int) (sw_or1 (st_cmp opGt (se_callB callLen rfl C.n_len bb_len (sa_cons (se_so (so_lc (own := [("sign", 1)]) (si_any (se_var rfl (.inl rfl))) (blkOk_by (N := ["word", "sign"]) (sc := defScope (top 34)) (by decide +kernel)) (sg_name rfl (.inl rfl)) (sts_one (st_cmp opNotIn (se_var rfl (.inl rfl)) se_str)) (se_var rfl (.inl rfl)) rfl)) sa_nil)) se_int))))) (ss_one (ss_ret se_non)) ss_nil)
  (ss_cons (ss_if (st_sw (sw_and (st_cmp opEq (se_ix (se_var rfl (.inl rfl)) se_int) se_str) (sw_and1 (st_cmp opGt (se_callB callLen rfl C.n_len bb_len (sa_cons (se_var rfl (.inl rfl)) sa_nil)) se_int)))) (ss_one (ss_ret se_non)) ss_nil)
  (ss_one (ss_ret (se_callTy callInt rfl C.n_int bb_int (sa_cons (se_var rfl (.inl rfl)) sa_nil))))))
theorem S__law_own_integer : FnScope ["word", "number"] ["word"] (defScope (top 35)) := ⟨rfl, rfl, rfl, by decide +kernel, rfl, by decide +kernel, by decide +kernel⟩
theorem w__law_own_integer (C : Ctx P w K mg base) : Fn P w K ⟨mg, none⟩ base 2 "_law_own_integer" m__law_own_integer := by
  refine mk_fn (k := 1) (m := b__law_own_integer) C.f__law_own_integer rfl S__law_own_integer (fun _ _ _ _ _ _ us hl => match us, hl with | [_], _ => rfl) fun f cdv A outer s H E hr => ?_
  exact (ss_cons (ss_if (st_cmp opEq (se_slice (se_var rfl (.inl rfl)) sp_none (sp_some se_int)) se_str) (ss_cons (ss_set rfl (.inl rfl) (se_sx (sx_call (k := 1) ((w__law_own_number C).mono (k := 1) (by omega)) (Nat.le_refl _) rfl (sr_v (se_slice (se_var rfl (.inl rfl)) (sp_some se_int) sp_none) sr_nil))))
  (ss_cons (ss_if (st_sw (sw_or (st_cmp opIsN (se_var rfl (.inl rfl)) se_non) (sw_or1 (st_cmp opEq (se_var rfl (.inl rfl)) se_int)))) (ss_one (ss_ret se_non)) ss_nil)
  (ss_one (ss_ret (se_neg (se_var rfl (.inl rfl))))))) ss_nil)
  (ss_one (ss_retX (sx_call (k := 1) ((w__law_own_number C).mono (k := 1) (by omega)) (Nat.le_refl _) rfl (sr_v (se_var rfl (.inl rfl)) sr_nil)))))
theorem S__law_own_fraction : FnScope ["word", "words", "top", "bottom"] ["word"] (defScope (top 36)) := ⟨rfl, rfl, rfl, by decide +kernel, rfl, by decide +kernel, by decide +kernel⟩
theorem w__law_own_fraction (C : Ctx P w K mg base) : Fn P w K ⟨mg, none⟩ base 3 "_law_own_fraction" m__law_own_fraction := by
  refine mk_fn (k := 2) (m := b__law_own_fraction) C.f__law_own_fraction rfl S__law_own_fraction (fun _ _ _ _ _ _ us hl => match us, hl with | [_], _ => rfl) fun f cdv A outer s H E hr => ?_
  exact (ss_cons (ss_set rfl (.inl rfl) (se_so (so_split (se_var rfl (.inl rfl)) se_str)))
  (ss_cons (ss_if (st_cmp opNe (se_callB callLen rfl C.n_len bb_len (sa_cons (se_var rfl (.inl rfl)) sa_nil)) se_int) (ss_one (ss_ret se_non)) ss_nil)
  (ss_cons (ss_set rfl (.inl rfl) (se_sx (sx_call (k := 2) ((w__law_own_integer C).mono (k := 2) (by omega)) (Nat.le_refl _) rfl (sr_v (se_ix (se_var rfl (.inl rfl)) se_int) sr_nil))))
  (ss_cons (ss_set rfl (.inl rfl) (se_sx (sx_call (k := 2) ((w__law_own_number C).mono (k := 2) (by omega)) (Nat.le_refl _) rfl (sr_v (se_ix (se_var rfl (.inl rfl)) se_int) sr_nil))))
  (ss_cons (ss_if (st_sw (sw_or (st_cmp opIsN (se_var rfl (.inl rfl)) se_non) (sw_or (st_cmp opIsN (se_var rfl (.inl rfl)) se_non) (sw_or (st_cmp opEq (se_var rfl (.inl rfl)) se_int) (sw_or1 (st_cmp opNe (se_sx (sx_call (k := 2) ((w__law_gcd C).mono (k := 2) (by omega)) (Nat.le_refl _) rfl (sr_v (se_callB callAbs rfl C.n_abs bb_abs (sa_cons (se_var rfl (.inl rfl)) sa_nil)) (sr_v (se_var rfl (.inl rfl)) sr_nil)))) se_int)))))) (ss_one (ss_ret se_non)) ss_nil)
  (ss_one (ss_ret (se_tup (sa_cons (se_var rfl (.inl rfl)) (sa_cons (se_var rfl (.inl rfl)) sa_nil))))))))))
theorem S__law_own_gain : FnScope ["line", "words", "pair"] ["line"] (defScope (top 37)) := ⟨rfl, rfl, rfl, by decide +kernel, rfl, by decide +kernel, by decide +kernel⟩
theorem w__law_own_gain (C : Ctx P w K mg base) : Fn P w K ⟨mg, none⟩ base 3 "_law_own_gain" m__law_own_gain := by
  refine mk_fn (k := 2) (m := b__law_own_gain) C.f__law_own_gain rfl S__law_own_gain (fun _ _ _ _ _ _ us hl => match us, hl with | [_], _ => rfl) fun f cdv A outer s H E hr => ?_
  exact (ss_cons (ss_set rfl (.inl rfl) (se_so (so_split (se_var rfl (.inl rfl)) se_str)))
  (ss_cons (ss_if (st_sw (sw_or (st_cmp opNe (se_callB callLen rfl C.n_len bb_len (sa_cons (se_var rfl (.inl rfl)) sa_nil)) se_int) (sw_or (st_cmp opNe (se_ix (se_var rfl (.inl rfl)) se_int) se_str) (sw_or1 (st_not (st_val (se_sx (sx_call (k := 2) ((w__law_is_name C).mono (k := 2) (by omega)) (Nat.le_refl _) rfl (sr_v (se_ix (se_var rfl (.inl rfl)) se_int) sr_nil))))))))) (ss_one (ss_ret se_non)) ss_nil)
  (ss_cons (ss_set rfl (.inl rfl) (se_tup (sa_cons (se_sx (sx_call (k := 2) ((w__law_own_integer C).mono (k := 2) (by omega)) (Nat.le_refl _) rfl (sr_v (se_ix (se_var rfl (.inl rfl)) se_int) sr_nil))) (sa_cons (se_sx (sx_call (k := 2) ((w__law_own_integer C).mono (k := 2) (by omega)) (Nat.le_refl _) rfl (sr_v (se_ix (se_var rfl (.inl rfl)) se_int) sr_nil))) sa_nil))))
  (ss_cons (ss_if (st_sw (sw_or (st_cmp opIsN (se_ix (se_var rfl (.inl rfl)) se_int) se_non) (sw_or1 (st_cmp opIsN (se_ix (se_var rfl (.inl rfl)) se_int) se_non)))) (ss_one (ss_ret se_non)) ss_nil)
  (ss_one (ss_ret (se_tup (sa_cons (se_ix (se_var rfl (.inl rfl)) se_int) (sa_cons (se_var rfl (.inl rfl)) sa_nil)))))))))
theorem S__law_own_lot : FnScope ["line", "words", "lot", "word"] ["line"] (defScope (top 38)) := ⟨rfl, rfl, rfl, by decide +kernel, rfl, by decide +kernel, by decide +kernel⟩
theorem w__law_own_lot (C : Ctx P w K mg base) : Fn P w K ⟨mg, none⟩ base 2 "_law_own_lot" m__law_own_lot := by
  refine mk_fn (k := 1) (m := b__law_own_lot) C.f__law_own_lot rfl S__law_own_lot (fun _ _ _ _ _ _ us hl => match us, hl with | [_], _ => rfl) fun f cdv A outer s H E hr => ?_
  exact (ss_cons (ss_set rfl (.inl rfl) (se_so (so_split (se_var rfl (.inl rfl)) se_str)))
  (ss_cons (ss_set rfl (.inl rfl) (se_callTy callTuple rfl C.n_tuple bb_tuple (sa_cons (se_so (so_lc (own := [("word", 3)]) (si_any (se_slice (se_var rfl (.inl rfl)) (sp_some se_int) sp_none)) (blkOk_by (N := ["line", "words", "lot", "word"]) (sc := defScope (top 38)) (by decide +kernel)) (sg_name rfl (.inl rfl)) sts_nil (se_sx (sx_call (k := 1) ((w__law_own_number C).mono (k := 1) (by omega)) (Nat.le_refl _) rfl (sr_v (se_var rfl (.inl rfl)) sr_nil))) rfl)) sa_nil)))
  (ss_cons (ss_if (st_sw (sw_or (st_cmp opNe (se_ix (se_var rfl (.inl rfl)) se_int) se_str) (sw_or (st_cmp opEq (se_callB callLen rfl C.n_len bb_len (sa_cons (se_var rfl (.inl rfl)) sa_nil)) se_int) (sw_or (st_cmp opIn se_non (se_var rfl (.inl rfl))) (sw_or1 (st_cmp opEq (se_callQ (byB (cMaxA rfl) rfl C.n_max bb_max) qMaxA (sq_of (se_var rfl (.inl rfl))) (u := .none)) se_int)))))) (ss_one (ss_ret se_non)) ss_nil)
  (ss_one (ss_ret (se_var rfl (.inl rfl)))))))
theorem S__law_own_parts : FnScope ["word", "line", "words", "parts", "one"] ["word", "line"] (defScope (top 39)) := ⟨rfl, rfl, rfl, by decide +kernel, rfl, by decide +kernel, by decide +kernel⟩
theorem w__law_own_parts (C : Ctx P w K mg base) : Fn P w K ⟨mg, none⟩ base 4 "_law_own_parts" m__law_own_parts := by
  refine mk_fn (k := 3) (m := b__law_own_parts) C.f__law_own_parts rfl S__law_own_parts (fun _ _ _ _ _ _ us hl => match us, hl with | [_, _], _ => rfl) fun f cdv A outer s H E hr => ?_
  exact (ss_cons (ss_set rfl (.inl rfl) (se_so (so_split (se_var rfl (.inl rfl)) se_str)))
  (ss_cons (ss_set rfl (.inl rfl) (se_callTy callTuple rfl C.n_tuple bb_tuple (sa_cons (se_so (so_lc (own := [("one", 4)]) (si_any (se_slice (se_var rfl (.inl rfl)) (sp_some se_int) sp_none)) (blkOk_by (N := ["word", "line", "words", "parts", "one"]) (sc := defScope (top 39)) (by decide +kernel)) (sg_name rfl (.inl rfl)) sts_nil (se_sx (sx_call (k := 3) ((w__law_own_fraction C).mono (k := 3) (by omega)) (Nat.le_refl _) rfl (sr_v (se_var rfl (.inl rfl)) sr_nil))) rfl)) sa_nil)))
  (ss_cons (ss_if (st_sw (sw_or (st_cmp opNe (se_ix (se_var rfl (.inl rfl)) se_int) (se_var rfl (.inl rfl))) (sw_or1 (st_cmp opIn se_non (se_var rfl (.inl rfl)))))) (ss_one (ss_ret se_non)) ss_nil)
  (ss_one (ss_ret (se_var rfl (.inl rfl)))))))
theorem S__law_bent : FnScope ["script", "source", "line", "words", "at", "odd", "kind", "new"] ["script", "source", "line"] (defScope (top 40)) := ⟨rfl, rfl, rfl, by decide +kernel, rfl, by decide +kernel, by decide +kernel⟩
theorem w__law_bent (C : Ctx P w K mg base) : Fn P w K ⟨mg, none⟩ base 2 "_law_bent" m__law_bent := by
  refine mk_fn (k := 1) (m := b__law_bent) C.f__law_bent rfl S__law_bent (fun _ _ _ _ _ _ us hl => match us, hl with | [_, _, _], _ => rfl) fun f cdv A outer s H E hr => ?_
  exact (ss_cons (ss_set rfl (.inl rfl) (se_so (so_split (se_var rfl (.inl rfl)) se_str)))
  (ss_cons (ss_set rfl (.inl rfl) (se_sx (sx_call (k := 1) ((w__law_draw C).mono (k := 1) (by omega)) (Nat.le_refl _) rfl (sr_v (se_var rfl (.inl rfl)) (sr_r rfl (.inl rfl) (sr_v (se_callB callLen rfl C.n_len bb_len (sa_cons (se_var rfl (.inl rfl)) sa_nil)) sr_nil))))))
  (ss_cons (ss_set rfl (.inl rfl) (se_so (so_lst (sa_cons se_str (sa_cons se_str (sa_cons se_str (sa_cons se_str (sa_cons se_str (sa_cons se_str (sa_cons se_str (sa_cons se_str (sa_cons se_str (sa_cons se_str (sa_cons se_str (sa_cons (se_op opMulS se_str se_int) (sa_cons se_str (sa_cons se_str sa_nil)))))))))))))))))
  (ss_cons (ss_set rfl (.inl rfl) (se_sx (sx_call (k := 1) ((w__law_draw C).mono (k := 1) (by omega)) (Nat.le_refl _) rfl (sr_v (se_var rfl (.inl rfl)) (sr_r rfl (.inl rfl) (sr_v se_int sr_nil))))))
  (ss_cons (ss_set rfl (.inl rfl) (se_ix (se_var rfl (.inl rfl)) (se_sx (sx_call (k := 1) ((w__law_draw C).mono (k := 1) (by omega)) (Nat.le_refl _) rfl (sr_v (se_var rfl (.inl rfl)) (sr_r rfl (.inl rfl) (sr_v se_int sr_nil)))))))
  (ss_cons (ss_if (st_cmp opEq (se_var rfl (.inl rfl)) se_int) (ss_one (ss_set rfl (.inl rfl) (se_op opAdd (se_slice (se_var rfl (.inl rfl)) sp_none (sp_some (se_var rfl (.inl rfl)))) (se_slice (se_var rfl (.inl rfl)) (sp_some (se_op opAdd (se_var rfl (.inl rfl)) se_int)) sp_none)))) (ss_one (ss_if (st_cmp opEq (se_var rfl (.inl rfl)) se_int) (ss_one (ss_set rfl (.inl rfl) (se_so (so_cat (se_so (so_cat (se_slice (se_var rfl (.inl rfl)) sp_none (sp_some (se_var rfl (.inl rfl)))) (sq_of (se_so (so_lst (sa_cons (se_var rfl (.inl rfl)) sa_nil)))))) (sq_of (se_slice (se_var rfl (.inl rfl)) (sp_some (se_var rfl (.inl rfl))) sp_none)))))) (ss_one (ss_if (st_cmp opEq (se_var rfl (.inl rfl)) se_int) (ss_one (ss_set rfl (.inl rfl) (se_so (so_cat (se_so (so_cat (se_slice (se_var rfl (.inl rfl)) sp_none (sp_some (se_var rfl (.inl rfl)))) (sq_of (se_so (so_lst (sa_cons (se_var rfl (.inl rfl)) sa_nil)))))) (sq_of (se_slice (se_var rfl (.inl rfl)) (sp_some (se_op opAdd (se_var rfl (.inl rfl)) se_int)) sp_none)))))) (ss_one (ss_set rfl (.inl rfl) (se_so (so_cat (se_so (so_cat (se_slice (se_var rfl (.inl rfl)) sp_none (sp_some (se_var rfl (.inl rfl)))) (sq_of (se_so (so_lst (sa_cons (se_op opAdd (se_ix (se_var rfl (.inl rfl)) (se_var rfl (.inl rfl))) (se_ix (se_so (so_lst (sa_cons se_str (sa_cons se_str (sa_cons se_str (sa_cons se_str (sa_cons se_str sa_nil))))))) (se_sx (sx_call (k := 1) ((w__law_draw C).mono (k := 1) (by omega)) (Nat.le_refl _) rfl (sr_v (se_var rfl (.inl rfl)) (sr_r rfl (.inl rfl) (sr_v se_int sr_nil))))))) sa_nil)))))) (sq_of (se_slice (se_var rfl (.inl rfl)) (sp_some (se_op opAdd (se_var rfl (.inl rfl)) se_int)) sp_none)))))))))))
  (ss_one (ss_ret (se_join se_str (sq_of (se_var rfl (.inl rfl))))))))))))
theorem S__law_lines_fault : FnScope ["lines", "last", "k", "found"] ["lines"] (defScope (top 41)) := ⟨rfl, rfl, rfl, by decide +kernel, rfl, by decide +kernel, by decide +kernel⟩
theorem w__law_lines_fault (C : Ctx P w K mg base) : Fn P w K ⟨mg, none⟩ base 4 "_law_lines_fault" m__law_lines_fault := by
  refine mk_fn (k := 3) (m := b__law_lines_fault) C.f__law_lines_fault rfl S__law_lines_fault (fun _ _ _ _ _ _ us hl => match us, hl with | [_], _ => rfl) fun f cdv A outer s H E hr => ?_
  exact (ss_cons (ss_set rfl (.inl rfl) se_str)
  (ss_cons (ss_for (si_rng1 rfl C.n_range (se_callB callLen rfl C.n_len bb_len (sa_cons (se_var rfl (.inl rfl)) sa_nil))) (sg_name rfl (.inl rfl)) (ss_cons (ss_set rfl (.inl rfl) (se_sx (sx_call (k := 3) ((w__law_own_gain C).mono (k := 3) (by omega)) (Nat.le_refl _) rfl (sr_v (se_ix (se_var rfl (.inl rfl)) (se_var rfl (.inl rfl))) sr_nil))))
  (ss_cons (ss_if (st_sw (sw_or (st_cmp opIsN (se_var rfl (.inl rfl)) se_non) (sw_or1 (st_not (st_cmp opLt (se_var rfl (.inl rfl)) (se_ix (se_var rfl (.inl rfl)) se_int)))))) (ss_one (ss_ret (se_op opAdd (se_var rfl (.inl rfl)) se_int))) ss_nil)
  (ss_one (ss_set rfl (.inl rfl) (se_ix (se_var rfl (.inl rfl)) se_int))))))
  (ss_one (ss_ret se_int))))
theorem S__law_read_or : FnScope ["text", "e"] ["text"] (defScope (top 42)) := ⟨rfl, rfl, rfl, by decide +kernel, rfl, by decide +kernel, by decide +kernel⟩
theorem w__law_read_or (C : Ctx P w K mg base) : Fn P w K ⟨mg, none⟩ base 7 "_law_read_or" m__law_read_or := by
  refine mk_fn (k := 6) (m := b__law_read_or) C.f__law_read_or rfl S__law_read_or (fun _ _ _ _ _ _ us hl => match us, hl with | [_], _ => rfl) fun f cdv A outer s H E hr => ?_
  exact (ss_one (ss_try (fun W => (ss_one (ss_retX (sx_call (k := 6) ((w_read_gains C).mono (k := 6) (by omega)) (Nat.le_refl _) rfl (sr_v (se_var rfl (.inl rfl)) sr_nil))))) (.named (nm_own rfl C.c_BadText) (CatTab.is C.cat_BadText) rfl rfl rfl (fun c a cls d p hx => (ss_one (ss_ret (se_so (so_lst (sa_cons (se_fldX hx C.fld_line rfl (.inl rfl)) (sa_cons (se_isX hx (ClsAt.own rfl C.c_BadGame) C.is_BadGame rfl C.n_isinstance rfl (.inl rfl)) sa_nil))))))) .nil)))
theorem S__law_pairs_dict : FnScope ["lines", "found", "line", "one"] ["lines"] (defScope (top 43)) := ⟨rfl, rfl, rfl, by decide +kernel, rfl, by decide +kernel, by decide +kernel⟩
theorem w__law_pairs_dict (C : Ctx P w K mg base) : Fn P w K ⟨mg, none⟩ base 4 "_law_pairs_dict" m__law_pairs_dict := by
  refine mk_fn (k := 3) (m := b__law_pairs_dict) C.f__law_pairs_dict rfl S__law_pairs_dict (fun _ _ _ _ _ _ us hl => match us, hl with | [_], _ => rfl) fun f cdv A outer s H E hr => ?_
  exact (ss_cons (ss_setO rfl (.inl rfl) so_dict0)
  (ss_cons (ss_for (si_any (se_var rfl (.inl rfl))) (sg_name rfl (.inl rfl)) (ss_cons (ss_set rfl (.inl rfl) (se_sx (sx_call (k := 3) ((w__law_own_gain C).mono (k := 3) (by omega)) (Nat.le_refl _) rfl (sr_v (se_var rfl (.inl rfl)) sr_nil))))
  (ss_one (ss_setK rfl (.inl rfl) (se_ix (se_var rfl (.inl rfl)) se_int) (se_ix (se_var rfl (.inl rfl)) se_int)))))
  (ss_one (ss_retV rfl (.inl rfl)))))
theorem S_law : FnScope ["script", "source", "gains", "used", "k", "name", "lines", "text", "lot", "parts", "part", "word", "wanted", "line", "bent", "at", "spoilt", "fault", "told", "weight"] ["script"] (defScope (top 44)) := ⟨rfl, rfl, rfl, by decide +kernel, rfl, by decide +kernel, by decide +kernel⟩
theorem w_lawF (C : Ctx P w K mg base) {a : Addr} {fd : FuncData} (F : FunD K "law" "law" (defArgs (top 44)) (defBody (top 44)) (defScope (top 44)) [] [] a fd) : FnOk P w K mg base (L2.CX P w) 41 a fd ["script"] (SpM ⟨mg, none⟩ m_law) := by
  refine fn_ok (mg := ⟨mg, none⟩) (k := 40) (m := b_law) rfl F S_law fun cdv A outer s H E hr => ?_
  exact (ss_cons (ss_setO rfl (.inr rfl) (so_sx (sx_call (k := 40) ((w__law_source C).mono (k := 40) (by omega)) (Nat.le_refl _) rfl (sr_v (se_var rfl (.inr (.inl rfl))) sr_nil))))
  (ss_cons (ss_setO rfl (.inr rfl) so_dict0)
  (ss_cons (ss_setO rfl (.inl rfl) (so_lst sa_nil))
  (ss_cons (ss_for (si_rng1 rfl C.n_range (se_sx (sx_call (k := 40) ((w__law_draw C).mono (k := 40) (by omega)) (Nat.le_refl _) rfl (sr_v (se_var rfl (.inr (.inl rfl))) (sr_r rfl (.inr (.inl rfl)) (sr_v se_int sr_nil)))))) (sg_name rfl (.inl rfl)) (ss_cons (ss_set rfl (.inl rfl) (se_sx (sx_call (k := 40) ((w__law_name C).mono (k := 40) (by omega)) (Nat.le_refl _) rfl (sr_v (se_var rfl (.inr (.inl rfl))) (sr_r rfl (.inr (.inl rfl)) (sr_b rfl (.inl rfl) sr_nil))))))
  (ss_cons (ss_append rfl (.inl rfl) (se_var rfl (.inl rfl)))
  (ss_one (ss_setK rfl (.inr (.inl rfl)) (se_tup (sa_cons (se_sx (sx_call (k := 40) ((w__law_gain C).mono (k := 40) (by omega)) (Nat.le_refl _) rfl (sr_v (se_var rfl (.inr (.inl rfl))) (sr_r rfl (.inr (.inl rfl)) (sr_v (se_ix (se_so (so_lst (sa_cons se_int (sa_cons se_int sa_nil)))) (se_sx (sx_call (k := 40) ((w__law_draw C).mono (k := 40) (by omega)) (Nat.le_refl _) rfl (sr_v (se_var rfl (.inr (.inl rfl))) (sr_r rfl (.inr (.inl rfl)) (sr_v se_int sr_nil)))))) sr_nil))))) (sa_cons (se_sx (sx_call (k := 40) ((w__law_gain C).mono (k := 40) (by omega)) (Nat.le_refl _) rfl (sr_v (se_var rfl (.inr (.inl rfl))) (sr_r rfl (.inr (.inl rfl)) (sr_v se_int sr_nil))))) sa_nil))) (se_var rfl (.inl rfl)))))))
  (ss_cons (ss_frz 2 (ss_setLc (own := [("name", 5)]) (fz := true) rfl rfl rfl (si_any (se_so (so_sortK (se_var rfl (.inr (.inl rfl))) rfl C.n_sorted))) (blkOk_by (N := ["script", "source", "gains", "used", "k", "name", "lines", "text", "lot", "parts", "part", "word", "wanted", "line", "bent", "at", "spoilt", "fault", "told", "weight"]) (sc := defScope (top 44)) (by decide +kernel)) (sg_name rfl (.inl rfl)) sts_nil (se_op opAdd (se_op opAdd (se_op opAdd (se_op opAdd (se_op opAdd se_str (se_var rfl (.inl rfl))) se_str) (se_callTy callStr rfl C.n_str bb_str (sa_cons (se_ix (se_ix (se_var rfl (.inr (.inl rfl))) (se_var rfl (.inl rfl))) se_int) sa_nil))) se_str) (se_callTy callStr rfl C.n_str bb_str (sa_cons (se_ix (se_ix (se_var rfl (.inr (.inl rfl))) (se_var rfl (.inl rfl))) se_int) sa_nil))) rfl))
  (ss_cons (ss_set rfl (.inl rfl) (se_join se_str (sq_of (se_var rfl (.inl rfl)))))
  (ss_cons (ss_if (st_sw (sw_or (st_not (st_val (se_sx (sx_call (k := 40) ((w__law_told C 39).mono (k := 40) (by omega)) (Nat.le_refl _) rfl (sr_v (se_sx (sx_call (k := 40) ((w_format_gains C).mono (k := 40) (by omega)) (Nat.le_refl _) rfl (sr_v (se_var rfl (.inr (.inl rfl))) sr_nil))) (sr_v (se_var rfl (.inl rfl)) sr_nil)))))) (sw_or1 (st_not (st_val (se_sx (sx_call (k := 40) ((w__law_told C 39).mono (k := 40) (by omega)) (Nat.le_refl _) rfl (sr_v (se_sx (sx_call (k := 40) ((w_read_gains C).mono (k := 40) (by omega)) (Nat.le_refl _) rfl (sr_v (se_var rfl (.inl rfl)) sr_nil))) (sr_v (se_var rfl (.inr (.inl rfl))) sr_nil))))))))) (ss_one (ss_ret se_bl)) ss_nil)
  (ss_cons (ss_set rfl (.inl rfl) (se_sx (sx_call (k := 40) ((w__law_lot C).mono (k := 40) (by omega)) (Nat.le_refl _) rfl (sr_v (se_var rfl (.inr (.inl rfl))) (sr_r rfl (.inr (.inl rfl)) (sr_v (se_op opAdd se_int (se_sx (sx_call (k := 40) ((w__law_draw C).mono (k := 40) (by omega)) (Nat.le_refl _) rfl (sr_v (se_var rfl (.inr (.inl rfl))) (sr_r rfl (.inr (.inl rfl)) (sr_v se_int sr_nil)))))) sr_nil))))))
  (ss_cons (ss_set rfl (.inl rfl) (se_callTy callTuple rfl C.n_tuple bb_tuple (sa_cons (se_so (so_lc (own := [("k", 4)]) (si_rng1 rfl C.n_range se_int) (blkOk_by (N := ["script", "source", "gains", "used", "k", "name", "lines", "text", "lot", "parts", "part", "word", "wanted", "line", "bent", "at", "spoilt", "fault", "told", "weight"]) (sc := defScope (top 44)) (by decide +kernel)) (sg_name rfl (.inl rfl)) sts_nil (se_sx (sx_call (k := 40) ((w__law_fraction C).mono (k := 40) (by omega)) (Nat.le_refl _) rfl (sr_v (se_sx (sx_call (k := 40) ((w__law_gain C).mono (k := 40) (by omega)) (Nat.le_refl _) rfl (sr_v (se_var rfl (.inr (.inl rfl))) (sr_r rfl (.inr (.inl rfl)) (sr_v se_int sr_nil))))) (sr_v (se_op opAdd se_int (se_sx (sx_call (k := 40) ((w__law_draw C).mono (k := 40) (by omega)) (Nat.le_refl _) rfl (sr_v (se_var rfl (.inr (.inl rfl))) (sr_r rfl (.inr (.inl rfl)) (sr_v se_int sr_nil)))))) sr_nil)))) rfl)) sa_nil)))
  (ss_cons (ss_set rfl (.inl rfl) (se_slice (se_var rfl (.inl rfl)) sp_none (sp_some (se_sx (sx_call (k := 40) ((w__law_draw C).mono (k := 40) (by omega)) (Nat.le_refl _) rfl (sr_v (se_var rfl (.inr (.inl rfl))) (sr_r rfl (.inr (.inl rfl)) (sr_v se_int sr_nil))))))))
  (ss_cons (ss_for (si_any (se_var rfl (.inl rfl))) (sg_name rfl (.inl rfl)) (ss_cons (ss_set rfl (.inl rfl) (se_op opAdd (se_op opAdd (se_callTy callStr rfl C.n_str bb_str (sa_cons (se_ix (se_var rfl (.inl rfl)) se_int) sa_nil)) se_str) (se_callTy callStr rfl C.n_str bb_str (sa_cons (se_ix (se_var rfl (.inl rfl)) se_int) sa_nil))))
  (ss_one (ss_if (st_sw (sw_or (st_not (st_val (se_sx (sx_call (k := 40) ((w__law_told C 39).mono (k := 40) (by omega)) (Nat.le_refl _) rfl (sr_v (se_sx (sx_call (k := 40) ((w_format_fraction C).mono (k := 40) (by omega)) (Nat.le_refl _) rfl (sr_v (se_var rfl (.inl rfl)) sr_nil))) (sr_v (se_var rfl (.inl rfl)) sr_nil)))))) (sw_or1 (st_not (st_val (se_sx (sx_call (k := 40) ((w__law_told C 39).mono (k := 40) (by omega)) (Nat.le_refl _) rfl (sr_v (se_sx (sx_call (k := 40) ((w_fraction_in C).mono (k := 40) (by omega)) (Nat.le_refl _) rfl (sr_v (se_var rfl (.inl rfl)) sr_nil))) (sr_v (se_var rfl (.inl rfl)) sr_nil))))))))) (ss_one (ss_ret se_bl)) ss_nil))))
  (ss_cons (ss_setO rfl (.inl rfl) (so_lst (sa_cons (se_join se_str (sq_of (se_so (so_cat (se_so (so_lst (sa_cons se_str sa_nil))) (sq_of (se_so (so_lc (own := [("weight", 19)]) (si_any (se_var rfl (.inl rfl))) (blkOk_by (N := ["script", "source", "gains", "used", "k", "name", "lines", "text", "lot", "parts", "part", "word", "wanted", "line", "bent", "at", "spoilt", "fault", "told", "weight"]) (sc := defScope (top 44)) (by decide +kernel)) (sg_name rfl (.inl rfl)) sts_nil (se_callTy callStr rfl C.n_str bb_str (sa_cons (se_var rfl (.inl rfl)) sa_nil)) rfl))))))) sa_nil)))
  (ss_cons (ss_append rfl (.inl rfl) (se_join se_str (sq_of (se_so (so_cat (se_so (so_lst (sa_cons se_str sa_nil))) (sq_of (se_so (so_lc (own := [("part", 10)]) (si_any (se_var rfl (.inl rfl))) (blkOk_by (N := ["script", "source", "gains", "used", "k", "name", "lines", "text", "lot", "parts", "part", "word", "wanted", "line", "bent", "at", "spoilt", "fault", "told", "weight"]) (sc := defScope (top 44)) (by decide +kernel)) (sg_name rfl (.inl rfl)) sts_nil (se_op opAdd (se_op opAdd (se_callTy callStr rfl C.n_str bb_str (sa_cons (se_ix (se_var rfl (.inl rfl)) se_int) sa_nil)) se_str) (se_callTy callStr rfl C.n_str bb_str (sa_cons (se_ix (se_var rfl (.inl rfl)) se_int) sa_nil))) rfl))))))))
  (ss_cons (ss_if (st_sw (sw_or (st_not (st_val (se_sx (sx_call (k := 40) ((w__law_told C 39).mono (k := 40) (by omega)) (Nat.le_refl _) rfl (sr_v (se_sx (sx_call (k := 40) ((w_format_lot C).mono (k := 40) (by omega)) (Nat.le_refl _) rfl (sr_v (se_var rfl (.inl rfl)) sr_nil))) (sr_v (se_ixO rfl (.inl rfl) se_int) sr_nil)))))) (sw_or1 (st_not (st_val (se_sx (sx_call (k := 40) ((w__law_told C 39).mono (k := 40) (by omega)) (Nat.le_refl _) rfl (sr_v (se_sx (sx_call (k := 40) ((w_format_parts C).mono (k := 40) (by omega)) (Nat.le_refl _) rfl (sr_v se_str (sr_v (se_var rfl (.inl rfl)) sr_nil)))) (sr_v (se_ixO rfl (.inl rfl) se_int) sr_nil))))))))) (ss_one (ss_ret se_bl)) ss_nil)
  (ss_cons (ss_if (st_sw (sw_or (st_not (st_val (se_sx (sx_call (k := 40) ((w__law_told C 39).mono (k := 40) (by omega)) (Nat.le_refl _) rfl (sr_v (se_sx (sx_call (k := 40) ((w_read_lot C).mono (k := 40) (by omega)) (Nat.le_refl _) rfl (sr_v (se_ixO rfl (.inl rfl) se_int) sr_nil))) (sr_v (se_var rfl (.inl rfl)) sr_nil)))))) (sw_or1 (st_not (st_val (se_sx (sx_call (k := 40) ((w__law_told C 39).mono (k := 40) (by omega)) (Nat.le_refl _) rfl (sr_v (se_sx (sx_call (k := 40) ((w_read_parts C).mono (k := 40) (by omega)) (Nat.le_refl _) rfl (sr_v se_str (sr_v (se_ixO rfl (.inl rfl) se_int) sr_nil)))) (sr_v (se_var rfl (.inl rfl)) sr_nil))))))))) (ss_one (ss_ret se_bl)) ss_nil)
  (ss_cons (ss_for (si_rng1 rfl C.n_range se_int) (sg_name rfl (.inl rfl)) (ss_one (ss_for (si_any (se_so (so_catO rfl (.inl rfl) (sq_of (se_so (so_lst (sa_cons se_str sa_nil))))))) (sg_name rfl (.inl rfl)) (ss_cons (ss_set rfl (.inl rfl) (se_sx (sx_call (k := 40) ((w__law_bent C).mono (k := 40) (by omega)) (Nat.le_refl _) rfl (sr_v (se_var rfl (.inr (.inl rfl))) (sr_r rfl (.inr (.inl rfl)) (sr_v (se_var rfl (.inl rfl)) sr_nil))))))
  (ss_cons (ss_if (st_sw (sw_or (st_not (st_val (se_sx (sx_call (k := 40) ((w__law_told C 39).mono (k := 40) (by omega)) (Nat.le_refl _) rfl (sr_v (se_sx (sx_call (k := 40) ((w_read_lot C).mono (k := 40) (by omega)) (Nat.le_refl _) rfl (sr_v (se_var rfl (.inl rfl)) sr_nil))) (sr_v (se_sx (sx_call (k := 40) ((w__law_own_lot C).mono (k := 40) (by omega)) (Nat.le_refl _) rfl (sr_v (se_var rfl (.inl rfl)) sr_nil))) sr_nil)))))) (sw_or1 (st_not (st_val (se_sx (sx_call (k := 40) ((w__law_told C 39).mono (k := 40) (by omega)) (Nat.le_refl _) rfl (sr_v (se_sx (sx_call (k := 40) ((w_read_gain C).mono (k := 40) (by omega)) (Nat.le_refl _) rfl (sr_v (se_var rfl (.inl rfl)) sr_nil))) (sr_v (se_sx (sx_call (k := 40) ((w__law_own_gain C).mono (k := 40) (by omega)) (Nat.le_refl _) rfl (sr_v (se_var rfl (.inl rfl)) sr_nil))) sr_nil))))))))) (ss_one (ss_ret se_bl)) ss_nil)
  (ss_cons (ss_if (st_not (st_val (se_sx (sx_call (k := 40) ((w__law_told C 39).mono (k := 40) (by omega)) (Nat.le_refl _) rfl (sr_v (se_sx (sx_call (k := 40) ((w_read_parts C).mono (k := 40) (by omega)) (Nat.le_refl _) rfl (sr_v se_str (sr_v (se_var rfl (.inl rfl)) sr_nil)))) (sr_v (se_sx (sx_call (k := 40) ((w__law_own_parts C).mono (k := 40) (by omega)) (Nat.le_refl _) rfl (sr_v se_str (sr_v (se_var rfl (.inl rfl)) sr_nil)))) sr_nil)))))) (ss_one (ss_ret se_bl)) ss_nil)
  (ss_one (ss_for (si_any (se_so (so_split (se_var rfl (.inl rfl)) se_str))) (sg_name rfl (.inl rfl)) (ss_cons (ss_if (st_not (st_val (se_sx (sx_call (k := 40) ((w__law_told C 39).mono (k := 40) (by omega)) (Nat.le_refl _) rfl (sr_v (se_sx (sx_call (k := 40) ((w_integer_in C).mono (k := 40) (by omega)) (Nat.le_refl _) rfl (sr_v (se_var rfl (.inl rfl)) sr_nil))) (sr_v (se_sx (sx_call (k := 40) ((w__law_own_integer C).mono (k := 40) (by omega)) (Nat.le_refl _) rfl (sr_v (se_var rfl (.inl rfl)) sr_nil))) sr_nil)))))) (ss_one (ss_ret se_bl)) ss_nil)
  (ss_one (ss_if (st_not (st_val (se_sx (sx_call (k := 40) ((w__law_told C 39).mono (k := 40) (by omega)) (Nat.le_refl _) rfl (sr_v (se_sx (sx_call (k := 40) ((w_fraction_in C).mono (k := 40) (by omega)) (Nat.le_refl _) rfl (sr_v (se_var rfl (.inl rfl)) sr_nil))) (sr_v (se_sx (sx_call (k := 40) ((w__law_own_fraction C).mono (k := 40) (by omega)) (Nat.le_refl _) rfl (sr_v (se_var rfl (.inl rfl)) sr_nil))) sr_nil)))))) (ss_one (ss_ret se_bl)) ss_nil)))))))))))
  (ss_cons (ss_if (st_cmp opGt (se_callB callLen rfl C.n_len bb_len (sa_cons (se_var rfl (.inl rfl)) sa_nil)) se_int) (ss_cons (ss_set rfl (.inl rfl) (se_sx (sx_call (k := 40) ((w__law_draw C).mono (k := 40) (by omega)) (Nat.le_refl _) rfl (sr_v (se_var rfl (.inr (.inl rfl))) (sr_r rfl (.inr (.inl rfl)) (sr_v (se_callB callLen rfl C.n_len bb_len (sa_cons (se_var rfl (.inl rfl)) sa_nil)) sr_nil))))))
  (ss_cons (ss_set rfl (.inl rfl) (se_so (so_cat (se_so (so_cat (se_slice (se_var rfl (.inl rfl)) sp_none (sp_some (se_var rfl (.inl rfl)))) (sq_of (se_so (so_lst (sa_cons (se_sx (sx_call (k := 40) ((w__law_bent C).mono (k := 40) (by omega)) (Nat.le_refl _) rfl (sr_v (se_var rfl (.inr (.inl rfl))) (sr_r rfl (.inr (.inl rfl)) (sr_v (se_ix (se_var rfl (.inl rfl)) (se_var rfl (.inl rfl))) sr_nil))))) sa_nil)))))) (sq_of (se_slice (se_var rfl (.inl rfl)) (sp_some (se_op opAdd (se_var rfl (.inl rfl)) se_int)) sp_none)))))
  (ss_cons (ss_if (st_cmp opEq (se_sx (sx_call (k := 40) ((w__law_draw C).mono (k := 40) (by omega)) (Nat.le_refl _) rfl (sr_v (se_var rfl (.inr (.inl rfl))) (sr_r rfl (.inr (.inl rfl)) (sr_v se_int sr_nil))))) se_int) (ss_one (ss_set rfl (.inl rfl) (se_op opAdd (se_slice (se_var rfl (.inl rfl)) (sp_some (se_var rfl (.inl rfl))) sp_none) (se_slice (se_var rfl (.inl rfl)) sp_none (sp_some (se_var rfl (.inl rfl))))))) ss_nil)
  (ss_cons (ss_set rfl (.inl rfl) (se_sx (sx_call (k := 40) ((w__law_lines_fault C).mono (k := 40) (by omega)) (Nat.le_refl _) rfl (sr_v (se_var rfl (.inl rfl)) sr_nil))))
  (ss_cons (ss_set rfl (.inl rfl) (se_sx (sx_call (k := 40) ((w__law_read_or C).mono (k := 40) (by omega)) (Nat.le_refl _) rfl (sr_v (se_join se_str (sq_of (se_var rfl (.inl rfl)))) sr_nil))))
  (ss_cons (ss_if (st_cmp opEq (se_var rfl (.inl rfl)) (se_so (so_lst (sa_cons se_str sa_nil)))) (ss_one (ss_retX (sx_call (k := 40) ((w__law_told C 39).mono (k := 40) (by omega)) (Nat.le_refl _) rfl (sr_v (se_var rfl (.inl rfl)) (sr_v (se_so so_dict0) sr_nil))))) ss_nil)
  (ss_cons (ss_if (st_cmp opGt (se_var rfl (.inl rfl)) se_int) (ss_one (ss_retX (sx_call (k := 40) ((w__law_told C 39).mono (k := 40) (by omega)) (Nat.le_refl _) rfl (sr_v (se_var rfl (.inl rfl)) (sr_v (se_so (so_lst (sa_cons (se_var rfl (.inl rfl)) (sa_cons se_bl sa_nil)))) sr_nil))))) ss_nil)
  (ss_one (ss_retX (sx_call (k := 40) ((w__law_told C 39).mono (k := 40) (by omega)) (Nat.le_refl _) rfl (sr_v (se_var rfl (.inl rfl)) (sr_v (se_sx (sx_call (k := 40) ((w__law_pairs_dict C).mono (k := 40) (by omega)) (Nat.le_refl _) rfl (sr_v (se_var rfl (.inl rfl)) sr_nil))) sr_nil)))))))))))) ss_nil)
  (ss_one (ss_ret se_bl)))))))))))))))))))
end
end Lk
end

section
set_option Elab.async false
set_option linter.all false
set_option maxRecDepth 100000
set_option maxHeartbeats 0
set_option autoImplicit false
namespace Lk
open Fl PySem PySem.Spec PyProof.Rows L2
abbrev R0 : PySem.W.OpenRow := PySem.W.OpenLaw.row PySem.Challenge.rw_sequencesandadvice_k84_texts_of_gains_an
def ist_BadText : Stmt := match top 3 with
  | .ClassDef _ _ _ b _ _ _ _ _ _ _ => b.getD 0 (.Pass ⟨0, 0, 0, 0⟩)
  | s => s
def ini_BadText : Ini := ⟨"BadText", ist_BadText, "BadText.__init__"⟩
def dd_is_name : He.DefD := ⟨("is_name", none), "is_name", "is_name", defArgs (top 10), defBody (top 10), defScope (top 10), [], []⟩
def dd_number_in : He.DefD := ⟨("number_in", none), "number_in", "number_in", defArgs (top 11), defBody (top 11), defScope (top 11), [], []⟩
def dd_integer_in : He.DefD := ⟨("integer_in", none), "integer_in", "integer_in", defArgs (top 13), defBody (top 13), defScope (top 13), [], []⟩
def dd_fraction_in : He.DefD := ⟨("fraction_in", none), "fraction_in", "fraction_in", defArgs (top 14), defBody (top 14), defScope (top 14), [], []⟩
def dd_format_fraction : He.DefD := ⟨("format_fraction", none), "format_fraction", "format_fraction", defArgs (top 15), defBody (top 15), defScope (top 15), [], []⟩
def dd__read_words : He.DefD := ⟨("_read_words", none), "_read_words", "_read_words", defArgs (top 16), defBody (top 16), defScope (top 16), [], []⟩
def dd_format_gains : He.DefD := ⟨("format_gains", none), "format_gains", "format_gains", defArgs (top 17), defBody (top 17), defScope (top 17), [], []⟩
def dd_read_gain : He.DefD := ⟨("read_gain", none), "read_gain", "read_gain", defArgs (top 18), defBody (top 18), defScope (top 18), [], []⟩
def dd_read_gains : He.DefD := ⟨("read_gains", none), "read_gains", "read_gains", defArgs (top 19), defBody (top 19), defScope (top 19), [], []⟩
def dd_format_lot : He.DefD := ⟨("format_lot", none), "format_lot", "format_lot", defArgs (top 20), defBody (top 20), defScope (top 20), [], []⟩
def dd_read_lot : He.DefD := ⟨("read_lot", none), "read_lot", "read_lot", defArgs (top 21), defBody (top 21), defScope (top 21), [], []⟩
def dd_format_parts : He.DefD := ⟨("format_parts", none), "format_parts", "format_parts", defArgs (top 22), defBody (top 22), defScope (top 22), [], []⟩
def dd_read_parts : He.DefD := ⟨("read_parts", none), "read_parts", "read_parts", defArgs (top 23), defBody (top 23), defScope (top 23), [], []⟩
def dd__law_source : He.DefD := ⟨("_law_source", none), "_law_source", "_law_source", defArgs (top 25), defBody (top 25), defScope (top 25), [], []⟩
def dd__law_draw : He.DefD := ⟨("_law_draw", none), "_law_draw", "_law_draw", defArgs (top 26), defBody (top 26), defScope (top 26), [], []⟩
def dd__law_name : He.DefD := ⟨("_law_name", none), "_law_name", "_law_name", defArgs (top 27), defBody (top 27), defScope (top 27), [], []⟩
def dd__law_gcd : He.DefD := ⟨("_law_gcd", none), "_law_gcd", "_law_gcd", defArgs (top 28), defBody (top 28), defScope (top 28), [], []⟩
def dd__law_is_name : He.DefD := ⟨("_law_is_name", none), "_law_is_name", "_law_is_name", defArgs (top 29), defBody (top 29), defScope (top 29), [], []⟩
def dd__law_told : He.DefD := ⟨("_law_told", none), "_law_told", "_law_told", defArgs (top 30), defBody (top 30), defScope (top 30), [], []⟩
def dd__law_fraction : He.DefD := ⟨("_law_fraction", none), "_law_fraction", "_law_fraction", defArgs (top 31), defBody (top 31), defScope (top 31), [], []⟩
def dd__law_gain : He.DefD := ⟨("_law_gain", none), "_law_gain", "_law_gain", defArgs (top 32), defBody (top 32), defScope (top 32), [], []⟩
def dd__law_lot : He.DefD := ⟨("_law_lot", none), "_law_lot", "_law_lot", defArgs (top 33), defBody (top 33), defScope (top 33), [], []⟩
def dd__law_own_number : He.DefD := ⟨("_law_own_number", none), "_law_own_number", "_law_own_number", defArgs (top 34), defBody (top 34), defScope (top 34), [], []⟩
def dd__law_own_integer : He.DefD := ⟨("_law_own_integer", none), "_law_own_integer", "_law_own_integer", defArgs (top 35), defBody (top 35), defScope (top 35), [], []⟩
def dd__law_own_fraction : He.DefD := ⟨("_law_own_fraction", none), "_law_own_fraction", "_law_own_fraction", defArgs (top 36), defBody (top 36), defScope (top 36), [], []⟩
def dd__law_own_gain : He.DefD := ⟨("_law_own_gain", none), "_law_own_gain", "_law_own_gain", defArgs (top 37), defBody (top 37), defScope (top 37), [], []⟩
def dd__law_own_lot : He.DefD := ⟨("_law_own_lot", none), "_law_own_lot", "_law_own_lot", defArgs (top 38), defBody (top 38), defScope (top 38), [], []⟩
def dd__law_own_parts : He.DefD := ⟨("_law_own_parts", none), "_law_own_parts", "_law_own_parts", defArgs (top 39), defBody (top 39), defScope (top 39), [], []⟩
def dd__law_bent : He.DefD := ⟨("_law_bent", none), "_law_bent", "_law_bent", defArgs (top 40), defBody (top 40), defScope (top 40), [], []⟩
def dd__law_lines_fault : He.DefD := ⟨("_law_lines_fault", none), "_law_lines_fault", "_law_lines_fault", defArgs (top 41), defBody (top 41), defScope (top 41), [], []⟩
def dd__law_read_or : He.DefD := ⟨("_law_read_or", none), "_law_read_or", "_law_read_or", defArgs (top 42), defBody (top 42), defScope (top 42), [], []⟩
def dd__law_pairs_dict : He.DefD := ⟨("_law_pairs_dict", none), "_law_pairs_dict", "_law_pairs_dict", defArgs (top 43), defBody (top 43), defScope (top 43), [], []⟩
def dd_law : He.DefD := ⟨("law", none), "law", "law", defArgs (top 44), defBody (top 44), defScope (top 44), [], []⟩
def fnL0 : List He.DefD := [dd_is_name, dd_number_in, dd_integer_in, dd_fraction_in, dd_format_fraction, dd__read_words, dd_format_gains, dd_read_gain, dd_read_gains, dd_format_lot, dd_read_lot, dd_format_parts, dd_read_parts, dd__law_source, dd__law_draw, dd__law_name, dd__law_gcd, dd__law_is_name, dd__law_told, dd__law_fraction, dd__law_gain, dd__law_lot, dd__law_own_number, dd__law_own_integer, dd__law_own_fraction, dd__law_own_gain, dd__law_own_lot, dd__law_own_parts, dd__law_bent, dd__law_lines_fault]
def fnL1 : List He.DefD := [dd__law_read_or, dd__law_pairs_dict, dd_law]
def fnL : List He.DefD := fnL0 ++ fnL1
def faL0 : List He.Fa := [.glo "is_name", .glo "number_in", .glo "integer_in", .glo "fraction_in", .glo "format_fraction", .glo "_read_words", .glo "format_gains", .glo "read_gain", .glo "read_gains", .glo "format_lot", .glo "read_lot", .glo "format_parts", .glo "read_parts", .glo "_law_source", .glo "_law_draw", .glo "_law_name", .glo "_law_gcd", .glo "_law_is_name", .glo "_law_told", .glo "_law_fraction", .glo "_law_gain", .glo "_law_lot", .glo "_law_own_number", .glo "_law_own_integer", .glo "_law_own_fraction", .glo "_law_own_gain", .glo "_law_own_lot", .glo "_law_own_parts", .glo "_law_bent", .glo "_law_lines_fault"]
def faL1 : List He.Fa := [.glo "_law_read_or", .glo "_law_pairs_dict", .glo "law", .glo "BadGame", .glo "BadText", .free "abs", .free "bool", .free "dict", .free "enumerate", .free "int", .free "isinstance", .free "len", .free "list", .free "max", .free "range", .free "sorted", .free "str", .free "sum", .free "tuple", .free "super", .str "DIGITS" "0123456789", .str "LETTERS" "abcdefghijklmnopqrstuvwxyz", .int "LONGEST_NAME" 12, .int "LONGEST_NUMBER" 40]
def faL : List He.Fa := faL0 ++ faL1
def inL0 : List Ini := [ini_BadText]
def inL : List Ini := inL0
def ex_0 (K : PySem.W.Frag) : Bool := impB K "gcd" "math.gcd"
def ex_1 (K : PySem.W.Frag) : Bool := supB K R0.prog.main.file ini_BadText
def ex_2 (K : PySem.W.Frag) : Bool := He.eqO (PySem.W.findIn K (.ref (He.ga K "BadText")) "line") (some none)
def ex_3 (K : PySem.W.Frag) : Bool := xfB K (He.ga K "BadText")
def ex_4 (K : PySem.W.Frag) : Bool := decide (PySem.W.exmOne K (.ref (He.ga K "BadText")) (.ref (He.ga K "BadText")) = some true)
def ex_5 (K : PySem.W.Frag) : Bool := decide (PySem.W.kitOne K (.ref (He.ga K "BadText")) (.ref (He.ga K "BadGame")) = some false)
def ex_6 (K : PySem.W.Frag) : Bool := excB K (He.ga K "BadText")
def exL0 : List (PySem.W.Frag → Bool) := [ex_0, ex_1, ex_2, ex_3, ex_4, ex_5, ex_6]
def exL : List (PySem.W.Frag → Bool) := exL0
def exA (K : PySem.W.Frag) : Bool := exL.all fun f => f K
theorem exA_at {K : PySem.W.Frag} (h : exA K = true) (i : Nat) {f : PySem.W.Frag → Bool} (e : exL[i]? = some f := by rfl) : f K = true := List.all_eq_true.mp h f (List.mem_of_getElem? e)
abbrev hk : PySem.W.Hook := hookL 5 faL fnL inL exA
def ob (s : PySem.W.SharedT) : AlL := obsLG 5 faL fnL inL exA (HandSHeadRun.getT s)
theorem ob_eq (s : PySem.W.SharedT) : ob s = hk.obs s.abs := obsLG_eq (HandSHeadRun.getT_eq s)
def lo0 : List Str := ["GameError", "BadText", "BadGame", "LETTERS", "DIGITS", "LONGEST_NAME", "LONGEST_NUMBER", "is_name", "number_in", "integer_in", "fraction_in", "format_fraction", "_read_words", "format_gains", "read_gain", "read_gains", "format_lot", "read_lot", "format_parts", "read_parts", "_law_source", "_law_draw", "_law_name", "_law_gcd", "_law_is_name", "_law_told", "_law_fraction", "_law_gain", "_law_lot", "_law_own_number"]
def lo1 : List Str := ["_law_own_integer", "_law_own_fraction", "_law_own_gain", "_law_own_lot", "_law_own_parts", "_law_bent", "_law_lines_fault", "_law_read_or", "_law_pairs_dict"]
def loose : List Str := lo0 ++ lo1
theorem run (w : World) : HandSHeadRun.RunEqI R0 (PySem.W.view R0.prog [0, 44]) hk ob 4000 loose w := by
  unfold HandSHeadRun.RunEqI
  kernel_rfl
theorem ctx_of {w : World} {K : PySem.W.Frag} {h : Heap} {mg : Str → Option Value} {base : Heap} (X : K.In h) (G : h.Ns mainGlobals mg) (c : SaysL faL fnL inL exA K) : Ctx R0.prog w K mg base := by
  exact {
    n_abs := He.free_ok X G (c.d.fact 35),
    n_bool := He.free_ok X G (c.d.fact 36),
    n_dict := He.free_ok X G (c.d.fact 37),
    n_enumerate := He.free_ok X G (c.d.fact 38),
    n_int := He.free_ok X G (c.d.fact 39),
    n_isinstance := He.free_ok X G (c.d.fact 40),
    n_len := He.free_ok X G (c.d.fact 41),
    n_list := He.free_ok X G (c.d.fact 42),
    n_max := He.free_ok X G (c.d.fact 43),
    n_range := He.free_ok X G (c.d.fact 44),
    n_sorted := He.free_ok X G (c.d.fact 45),
    n_str := He.free_ok X G (c.d.fact 46),
    n_sum := He.free_ok X G (c.d.fact 47),
    n_tuple := He.free_ok X G (c.d.fact 48),
    g_DIGITS := He.str_ok X G (c.d.fact 50),
    g_LETTERS := He.str_ok X G (c.d.fact 51),
    g_LONGEST_NAME := He.int_ok X G (c.d.fact 52),
    g_LONGEST_NUMBER := He.int_ok X G (c.d.fact 53),
    i_gcd := impB_ok X G (exA_at c.ex 0 (f := ex_0)),
    f_is_name := (by obtain ⟨fd, F⟩ := c.d.def_ 0 (d := dd_is_name); exact ⟨_, fd, (He.glo_ok X G (c.d.fact 0)), F⟩),
    f_number_in := (by obtain ⟨fd, F⟩ := c.d.def_ 1 (d := dd_number_in); exact ⟨_, fd, (He.glo_ok X G (c.d.fact 1)), F⟩),
    f_integer_in := (by obtain ⟨fd, F⟩ := c.d.def_ 2 (d := dd_integer_in); exact ⟨_, fd, (He.glo_ok X G (c.d.fact 2)), F⟩),
    f_fraction_in := (by obtain ⟨fd, F⟩ := c.d.def_ 3 (d := dd_fraction_in); exact ⟨_, fd, (He.glo_ok X G (c.d.fact 3)), F⟩),
    f_format_fraction := (by obtain ⟨fd, F⟩ := c.d.def_ 4 (d := dd_format_fraction); exact ⟨_, fd, (He.glo_ok X G (c.d.fact 4)), F⟩),
    f__read_words := (by obtain ⟨fd, F⟩ := c.d.def_ 5 (d := dd__read_words); exact ⟨_, fd, (He.glo_ok X G (c.d.fact 5)), F⟩),
    f_format_gains := (by obtain ⟨fd, F⟩ := c.d.def_ 6 (d := dd_format_gains); exact ⟨_, fd, (He.glo_ok X G (c.d.fact 6)), F⟩),
    f_read_gain := (by obtain ⟨fd, F⟩ := c.d.def_ 7 (d := dd_read_gain); exact ⟨_, fd, (He.glo_ok X G (c.d.fact 7)), F⟩),
    f_read_gains := (by obtain ⟨fd, F⟩ := c.d.def_ 8 (d := dd_read_gains); exact ⟨_, fd, (He.glo_ok X G (c.d.fact 8)), F⟩),
    f_format_lot := (by obtain ⟨fd, F⟩ := c.d.def_ 9 (d := dd_format_lot); exact ⟨_, fd, (He.glo_ok X G (c.d.fact 9)), F⟩),
    f_read_lot := (by obtain ⟨fd, F⟩ := c.d.def_ 10 (d := dd_read_lot); exact ⟨_, fd, (He.glo_ok X G (c.d.fact 10)), F⟩),
    f_format_parts := (by obtain ⟨fd, F⟩ := c.d.def_ 11 (d := dd_format_parts); exact ⟨_, fd, (He.glo_ok X G (c.d.fact 11)), F⟩),
    f_read_parts := (by obtain ⟨fd, F⟩ := c.d.def_ 12 (d := dd_read_parts); exact ⟨_, fd, (He.glo_ok X G (c.d.fact 12)), F⟩),
    f__law_source := (by obtain ⟨fd, F⟩ := c.d.def_ 13 (d := dd__law_source); exact ⟨_, fd, (He.glo_ok X G (c.d.fact 13)), F⟩),
    f__law_draw := (by obtain ⟨fd, F⟩ := c.d.def_ 14 (d := dd__law_draw); exact ⟨_, fd, (He.glo_ok X G (c.d.fact 14)), F⟩),
    f__law_name := (by obtain ⟨fd, F⟩ := c.d.def_ 15 (d := dd__law_name); exact ⟨_, fd, (He.glo_ok X G (c.d.fact 15)), F⟩),
    f__law_gcd := (by obtain ⟨fd, F⟩ := c.d.def_ 16 (d := dd__law_gcd); exact ⟨_, fd, (He.glo_ok X G (c.d.fact 16)), F⟩),
    f__law_is_name := (by obtain ⟨fd, F⟩ := c.d.def_ 17 (d := dd__law_is_name); exact ⟨_, fd, (He.glo_ok X G (c.d.fact 17)), F⟩),
    f__law_told := (by obtain ⟨fd, F⟩ := c.d.def_ 18 (d := dd__law_told); exact ⟨_, fd, (He.glo_ok X G (c.d.fact 18)), F⟩),
    f__law_fraction := (by obtain ⟨fd, F⟩ := c.d.def_ 19 (d := dd__law_fraction); exact ⟨_, fd, (He.glo_ok X G (c.d.fact 19)), F⟩),
    f__law_gain := (by obtain ⟨fd, F⟩ := c.d.def_ 20 (d := dd__law_gain); exact ⟨_, fd, (He.glo_ok X G (c.d.fact 20)), F⟩),
    f__law_lot := (by obtain ⟨fd, F⟩ := c.d.def_ 21 (d := dd__law_lot); exact ⟨_, fd, (He.glo_ok X G (c.d.fact 21)), F⟩),
    f__law_own_number := (by obtain ⟨fd, F⟩ := c.d.def_ 22 (d := dd__law_own_number); exact ⟨_, fd, (He.glo_ok X G (c.d.fact 22)), F⟩),
    f__law_own_integer := (by obtain ⟨fd, F⟩ := c.d.def_ 23 (d := dd__law_own_integer); exact ⟨_, fd, (He.glo_ok X G (c.d.fact 23)), F⟩),
    f__law_own_fraction := (by obtain ⟨fd, F⟩ := c.d.def_ 24 (d := dd__law_own_fraction); exact ⟨_, fd, (He.glo_ok X G (c.d.fact 24)), F⟩),
    f__law_own_gain := (by obtain ⟨fd, F⟩ := c.d.def_ 25 (d := dd__law_own_gain); exact ⟨_, fd, (He.glo_ok X G (c.d.fact 25)), F⟩),
    f__law_own_lot := (by obtain ⟨fd, F⟩ := c.d.def_ 26 (d := dd__law_own_lot); exact ⟨_, fd, (He.glo_ok X G (c.d.fact 26)), F⟩),
    f__law_own_parts := (by obtain ⟨fd, F⟩ := c.d.def_ 27 (d := dd__law_own_parts); exact ⟨_, fd, (He.glo_ok X G (c.d.fact 27)), F⟩),
    f__law_bent := (by obtain ⟨fd, F⟩ := c.d.def_ 28 (d := dd__law_bent); exact ⟨_, fd, (He.glo_ok X G (c.d.fact 28)), F⟩),
    f__law_lines_fault := (by obtain ⟨fd, F⟩ := c.d.def_ 29 (d := dd__law_lines_fault); exact ⟨_, fd, (He.glo_ok X G (c.d.fact 29)), F⟩),
    f__law_read_or := (by obtain ⟨fd, F⟩ := c.d.def_ 30 (d := dd__law_read_or); exact ⟨_, fd, (He.glo_ok X G (c.d.fact 30)), F⟩),
    f__law_pairs_dict := (by obtain ⟨fd, F⟩ := c.d.def_ 31 (d := dd__law_pairs_dict); exact ⟨_, fd, (He.glo_ok X G (c.d.fact 31)), F⟩),
    f_law := (by obtain ⟨fd, F⟩ := c.d.def_ 32 (d := dd_law); exact ⟨_, fd, (He.glo_ok X G (c.d.fact 32)), F⟩),
    c_BadGame := (He.glo_ok X G (c.d.fact 33)),
    c_BadText := (He.glo_ok X G (c.d.fact 34)),
    pay_BadText := pay_line (d := ini_BadText) (p := "line") (exA_at c.ex 1 (f := ex_1)) (c.ini 0) (He.free_ok X G (c.d.fact 49)) (He.free_ok X G (c.d.fact 46)) (He.glo_ok X G (c.d.fact 34)) ⟨rfl, rfl, rfl, by decide +kernel, by decide +kernel, by decide +kernel, by decide +kernel, by decide +kernel, free_one (by decide +kernel), by decide⟩ (by decide +kernel) (by rfl) (by rfl) (by rfl) (He.eqO_ok (exA_at c.ex 2 (f := ex_2))) (by rfl) (by decide) (by decide) (by decide +kernel) (fun _ _ _ _ _ _ _ us hl => match us, hl with | [_, _], _ => rfl),
    fx_BadText := ⟨_, (He.glo_ok X G (c.d.fact 34)), xfB_ok (exA_at c.ex 3 (f := ex_3)), He.eqO_ok (exA_at c.ex 2 (f := ex_2))⟩,
    cat_BadText := CatTab.cons (He.glo_ok X G (c.d.fact 34)) (eqS_ok (exA_at c.ex 4 (f := ex_4))) (CatTab.nil),
    is_BadGame := IsTab.cons (He.glo_ok X G (c.d.fact 34)) (excB_ok (exA_at c.ex 6 (f := ex_6))) (eqS_ok (exA_at c.ex 5 (f := ex_5))) (IsTab.nil),
    fld_line := FldTab.cons (He.glo_ok X G (c.d.fact 34)) (xfB_ok (exA_at c.ex 3 (f := ex_3))) (He.eqO_ok (exA_at c.ex 2 (f := ex_2))) (FldTab.nil)
  }
end Lk
end

set_option Elab.async false
set_option linter.all false
set_option maxRecDepth 100000
set_option maxHeartbeats 0
open PySem PySem.W PySem.Calls PyProof.Rows
theorem PySem.Challenge.cw_sequencesandadvice_k84_texts_of_gains_an_holds : PySem.Challenge.rw_sequencesandadvice_k84_texts_of_gains_an.Holds := by
  w_on; o_law
  refine HandSHeadRun.head_imp (r := OpenLaw.row PySem.Challenge.rw_sequencesandadvice_k84_texts_of_gains_an) (q := view (OpenLaw.row PySem.Challenge.rw_sequencesandadvice_k84_texts_of_gains_an).prog [0, 44]) (H := Lk.hk) (ob := Lk.ob) (M := 4000) (loose := Lk.loose) (d := HandSHeadRun.topDef (OpenLaw.row PySem.Challenge.rw_sequencesandadvice_k84_texts_of_gains_an).prog 44) (kwd := []) Lk.ob_eq
    Lk.run (by kernel_rfl) (by kernel_rfl) (by kernel_rfl) (by rfl) (by first | assumption | decide +kernel) (by decide +kernel) ⟨rfl, rfl, rfl, rfl, rfl, by decide +kernel⟩ ?hw ?hc
  case hw => w_witness2
  case hc =>
    refine Fl.walk_ofL (l := PySem.Challenge.rw_sequencesandadvice_k84_texts_of_gains_an) (n := 63) (k := 41) (x := "script") rfl (by decide) (by kernel_rfl) ⟨rfl, by decide, by decide⟩ ?F
    intro w mg fa h Y G hmg0
    obtain ⟨K, KX, c⟩ := Y
    have hmg : mg ("law" : PySem.Str) = some (.ref fa) := by
      have e : (HandSHeadRun.topDef (OpenLaw.row PySem.Challenge.rw_sequencesandadvice_k84_texts_of_gains_an).prog 44).name = ("law" : PySem.Str) := by kernel_rfl
      rw [← e]
      exact hmg0
    obtain ⟨fd, F⟩ := c.d.def_ 32 (d := Lk.dd_law)
    have e := hmg.symm.trans (He.glo_ok KX G (c.d.fact 32 (f := .glo "law")))
    cases e
    have b := L2.FunD.bindsA (ps := ["script"]) F fun _ _ _ _ _ _ us hl => match us, hl with | [_], _ => rfl
    exact ⟨K, fd, Fl.SpM ⟨mg, none⟩ Lk.m_law, KX, fun s u => b s [u] rfl, fun H a ns _ hO hS => Fl.law_sp c.nl Lk.law_eq H a ns hO hS, fun base X2 G2 => Lk.w_lawF (Lk.ctx_of X2 G2 c) F⟩
